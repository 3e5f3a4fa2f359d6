import PyProof.Rows.All
import Wide.All
import OpenK.AllK
import Wide.FinOn
import KE.KBytesWalk
import PyProof.StrWalks
import PyProof.EnumMake
import PyProof.Draws
import PySem.Challenge.RW_og0184_01

section
open PySem PySem.W PySem.Calls PyProof.Rows
set_option Elab.async false
set_option maxRecDepth 100000
namespace Mine
/-- the view: the program with those of its statements that bind what stays -/
noncomputable def mkView {v0 : Stmt} {v1 : Stmt} {v2 : Stmt} {v3 : Stmt} {v4 : Stmt} {v5 : Stmt} {v6 : Stmt} {v7 : Stmt} {v8 : Stmt} {v9 : Stmt} {v10 : Stmt} {v11 : Stmt} {v12 : Stmt} {v13 : Stmt} {v14 : Stmt} {v15 : Stmt} {v16 : Stmt} {v17 : Stmt} {v18 : Stmt} {v19 : Stmt} {v20 : Stmt} {v21 : Stmt} {v22 : Stmt} {v23 : Stmt} {v24 : Stmt} {v25 : Stmt} {v26 : Stmt} {v27 : Stmt} {v28 : Stmt} {v29 : Stmt} {v30 : Stmt} {v31 : Stmt} {v32 : Stmt} {v33 : Stmt} {v34 : Stmt} {v35 : Stmt} {v36 : Stmt} {v37 : Stmt} {v38 : Stmt} {v39 : Stmt} {v40 : Stmt} {v41 : Stmt} {v42 : Stmt} {v43 : Stmt} {v44 : Stmt} {v45 : Stmt} {v46 : Stmt} {v47 : Stmt} {v48 : Stmt} {v49 : Stmt} {v50 : Stmt} {v51 : Stmt} {v52 : Stmt} {v53 : Stmt} {v54 : Stmt} {v55 : Stmt} {v56 : Stmt} {v57 : Stmt} {v58 : Stmt} {v59 : Stmt} {v60 : Stmt} {v61 : Stmt} {v62 : Stmt} {v63 : Stmt} {v64 : Stmt} {v65 : Stmt} {v66 : Stmt} (_h : PySem.Challenge.pw_og0184_01.main.body = [v0, v1, v2, v3, v4, v5, v6, v7, v8, v9, v10, v11, v12, v13, v14, v15, v16, v17, v18, v19, v20, v21, v22, v23, v24, v25, v26, v27, v28, v29, v30, v31, v32, v33, v34, v35, v36, v37, v38, v39, v40, v41, v42, v43, v44, v45, v46, v47, v48, v49, v50, v51, v52, v53, v54, v55, v56, v57, v58, v59, v60, v61, v62, v63, v64, v65, v66]) : Program := { PySem.Challenge.pw_og0184_01 with main := { PySem.Challenge.pw_og0184_01.main with body := [v0, v2, v3, v4, v5, v6, v7, v8, v9, v10, v11, v13, v14, v15, v16, v17, v18, v19, v20, v21, v22, v24, v25, v27, v28, v29, v30, v31, v32, v33, v34, v35, v36, v38, v39, v40, v41, v42, v43, v44, v45, v46, v47, v49, v50, v51, v52, v53, v54, v55, v57, v59, v60, v61, v62, v63, v64, v65, v66] } }
noncomputable def hd.view_39 : Program := mkView rfl
/-- the objects of the top that the walk asks for; the defs' blocks are the program's own, found by unification -/
noncomputable def hd.heap_39 : Params → Frag := (fun {x0n : Str} {af0 : Arguments} {bf0 : List Stmt} {x0d : List PySem.Expr} {x0r : Option PySem.Expr} {x0t : List TypeParam} {sf0 : PySem.Scope} {x0u : Option PySem.Scope} {x0v : Str} {x0p : Pos} {x1 : Stmt} {x2 : Stmt} {x3 : Stmt} {x4 : Stmt} {x5 : Stmt} {x6 : Stmt} {x7n : Str} {af7 : Arguments} {bf7 : List Stmt} {x7d : List PySem.Expr} {x7r : Option PySem.Expr} {x7t : List TypeParam} {sf7 : PySem.Scope} {x7u : Option PySem.Scope} {x7v : Str} {x7p : Pos} {x8n : Str} {af8 : Arguments} {bf8 : List Stmt} {x8d : List PySem.Expr} {x8r : Option PySem.Expr} {x8t : List TypeParam} {sf8 : PySem.Scope} {x8u : Option PySem.Scope} {x8v : Str} {x8p : Pos} {x9n : Str} {af9 : Arguments} {bf9 : List Stmt} {x9d : List PySem.Expr} {x9r : Option PySem.Expr} {x9t : List TypeParam} {sf9 : PySem.Scope} {x9u : Option PySem.Scope} {x9v : Str} {x9p : Pos} {x10n : Str} {af10 : Arguments} {bf10 : List Stmt} {x10d : List PySem.Expr} {x10r : Option PySem.Expr} {x10t : List TypeParam} {sf10 : PySem.Scope} {x10u : Option PySem.Scope} {x10v : Str} {x10p : Pos} {x11n : Str} {af11 : Arguments} {bf11 : List Stmt} {x11d : List PySem.Expr} {x11r : Option PySem.Expr} {x11t : List TypeParam} {sf11 : PySem.Scope} {x11u : Option PySem.Scope} {x11v : Str} {x11p : Pos} {x12 : Stmt} {x13 : Stmt} {x14 : Stmt} {x15 : Stmt} {x16 : Stmt} {x17 : Stmt} {x18 : Stmt} {x19n : Str} {af19 : Arguments} {bf19 : List Stmt} {x19d : List PySem.Expr} {x19r : Option PySem.Expr} {x19t : List TypeParam} {sf19 : PySem.Scope} {x19u : Option PySem.Scope} {x19v : Str} {x19p : Pos} {x20n : Str} {af20 : Arguments} {bf20 : List Stmt} {x20d : List PySem.Expr} {x20r : Option PySem.Expr} {x20t : List TypeParam} {sf20 : PySem.Scope} {x20u : Option PySem.Scope} {x20v : Str} {x20p : Pos} {x21n : Str} {af21 : Arguments} {bf21 : List Stmt} {x21d : List PySem.Expr} {x21r : Option PySem.Expr} {x21t : List TypeParam} {sf21 : PySem.Scope} {x21u : Option PySem.Scope} {x21v : Str} {x21p : Pos} {x22m0n : Str} {af22m0 : Arguments} {bf22m0 : List Stmt} {x22m0d : List PySem.Expr} {x22m0r : Option PySem.Expr} {x22m0t : List TypeParam} {sf22m0 : PySem.Scope} {x22m0u : Option PySem.Scope} {x22m0v : Str} {x22m0p : Pos} {x22m1n : Str} {af22m1 : Arguments} {bf22m1 : List Stmt} {x22m1d : List PySem.Expr} {x22m1r : Option PySem.Expr} {x22m1t : List TypeParam} {sf22m1 : PySem.Scope} {x22m1u : Option PySem.Scope} {x22m1v : Str} {x22m1p : Pos} {x22m2n : Str} {af22m2 : Arguments} {bf22m2 : List Stmt} {x22m2d : List PySem.Expr} {x22m2r : Option PySem.Expr} {x22m2t : List TypeParam} {sf22m2 : PySem.Scope} {x22m2u : Option PySem.Scope} {x22m2v : Str} {x22m2p : Pos} {x22m3n : Str} {af22m3 : Arguments} {bf22m3 : List Stmt} {x22m3d : List PySem.Expr} {x22m3r : Option PySem.Expr} {x22m3t : List TypeParam} {sf22m3 : PySem.Scope} {x22m3u : Option PySem.Scope} {x22m3v : Str} {x22m3p : Pos} {x22m4n : Str} {af22m4 : Arguments} {bf22m4 : List Stmt} {x22m4d : List PySem.Expr} {x22m4r : Option PySem.Expr} {x22m4t : List TypeParam} {sf22m4 : PySem.Scope} {x22m4u : Option PySem.Scope} {x22m4v : Str} {x22m4p : Pos} {x22m5n : Str} {af22m5 : Arguments} {bf22m5 : List Stmt} {x22m5d : List PySem.Expr} {x22m5r : Option PySem.Expr} {x22m5t : List TypeParam} {sf22m5 : PySem.Scope} {x22m5u : Option PySem.Scope} {x22m5v : Str} {x22m5p : Pos} {x22m6n : Str} {af22m6 : Arguments} {bf22m6 : List Stmt} {x22m6d : List PySem.Expr} {x22m6r : Option PySem.Expr} {x22m6t : List TypeParam} {sf22m6 : PySem.Scope} {x22m6u : Option PySem.Scope} {x22m6v : Str} {x22m6p : Pos} {x22m7n : Str} {af22m7 : Arguments} {bf22m7 : List Stmt} {x22m7d : List PySem.Expr} {x22m7r : Option PySem.Expr} {x22m7t : List TypeParam} {sf22m7 : PySem.Scope} {x22m7u : Option PySem.Scope} {x22m7v : Str} {x22m7p : Pos} {x22m8n : Str} {af22m8 : Arguments} {bf22m8 : List Stmt} {x22m8d : List PySem.Expr} {x22m8r : Option PySem.Expr} {x22m8t : List TypeParam} {sf22m8 : PySem.Scope} {x22m8u : Option PySem.Scope} {x22m8v : Str} {x22m8p : Pos} {x22m9n : Str} {af22m9 : Arguments} {bf22m9 : List Stmt} {x22m9d : List PySem.Expr} {x22m9r : Option PySem.Expr} {x22m9t : List TypeParam} {sf22m9 : PySem.Scope} {x22m9u : Option PySem.Scope} {x22m9v : Str} {x22m9p : Pos} {x22m10n : Str} {af22m10 : Arguments} {bf22m10 : List Stmt} {x22m10d : List PySem.Expr} {x22m10r : Option PySem.Expr} {x22m10t : List TypeParam} {sf22m10 : PySem.Scope} {x22m10u : Option PySem.Scope} {x22m10v : Str} {x22m10p : Pos} {x22m11n : Str} {af22m11 : Arguments} {bf22m11 : List Stmt} {x22m11d : List PySem.Expr} {x22m11r : Option PySem.Expr} {x22m11t : List TypeParam} {sf22m11 : PySem.Scope} {x22m11u : Option PySem.Scope} {x22m11v : Str} {x22m11p : Pos} {x22m12n : Str} {af22m12 : Arguments} {bf22m12 : List Stmt} {x22m12d : List PySem.Expr} {x22m12r : Option PySem.Expr} {x22m12t : List TypeParam} {sf22m12 : PySem.Scope} {x22m12u : Option PySem.Scope} {x22m12v : Str} {x22m12p : Pos} {c22n : Str} {c22b : List PySem.Expr} {c22k : List Keyword} {c22d : List PySem.Expr} {c22t : List TypeParam} {c22s : PySem.Scope} {c22u : Option PySem.Scope} {c22v : Str} {c22a : List Str} {c22p : Pos} {x23 : Stmt} {x24m0n : Str} {af24m0 : Arguments} {bf24m0 : List Stmt} {x24m0d : List PySem.Expr} {x24m0r : Option PySem.Expr} {x24m0t : List TypeParam} {sf24m0 : PySem.Scope} {x24m0u : Option PySem.Scope} {x24m0v : Str} {x24m0p : Pos} {x24m1n : Str} {af24m1 : Arguments} {bf24m1 : List Stmt} {x24m1d : List PySem.Expr} {x24m1r : Option PySem.Expr} {x24m1t : List TypeParam} {sf24m1 : PySem.Scope} {x24m1u : Option PySem.Scope} {x24m1v : Str} {x24m1p : Pos} {c24n : Str} {c24b : List PySem.Expr} {c24k : List Keyword} {c24d : List PySem.Expr} {c24t : List TypeParam} {c24s : PySem.Scope} {c24u : Option PySem.Scope} {c24v : Str} {c24a : List Str} {c24p : Pos} {x25 : Stmt} {x26 : Stmt} {x27 : Stmt} {x28 : Stmt} {x29 : Stmt} {x30 : Stmt} {x31 : Stmt} {x32m0n : Str} {af32m0 : Arguments} {bf32m0 : List Stmt} {x32m0d : List PySem.Expr} {x32m0r : Option PySem.Expr} {x32m0t : List TypeParam} {sf32m0 : PySem.Scope} {x32m0u : Option PySem.Scope} {x32m0v : Str} {x32m0p : Pos} {x32m1n : Str} {af32m1 : Arguments} {bf32m1 : List Stmt} {x32m1d : List PySem.Expr} {x32m1r : Option PySem.Expr} {x32m1t : List TypeParam} {sf32m1 : PySem.Scope} {x32m1u : Option PySem.Scope} {x32m1v : Str} {x32m1p : Pos} {x32m2n : Str} {af32m2 : Arguments} {bf32m2 : List Stmt} {x32m2d : List PySem.Expr} {x32m2r : Option PySem.Expr} {x32m2t : List TypeParam} {sf32m2 : PySem.Scope} {x32m2u : Option PySem.Scope} {x32m2v : Str} {x32m2p : Pos} {x32m3n : Str} {af32m3 : Arguments} {bf32m3 : List Stmt} {x32m3d : List PySem.Expr} {x32m3r : Option PySem.Expr} {x32m3t : List TypeParam} {sf32m3 : PySem.Scope} {x32m3u : Option PySem.Scope} {x32m3v : Str} {x32m3p : Pos} {x32m4n : Str} {af32m4 : Arguments} {bf32m4 : List Stmt} {x32m4d : List PySem.Expr} {x32m4r : Option PySem.Expr} {x32m4t : List TypeParam} {sf32m4 : PySem.Scope} {x32m4u : Option PySem.Scope} {x32m4v : Str} {x32m4p : Pos} {x32m5n : Str} {af32m5 : Arguments} {bf32m5 : List Stmt} {x32m5d : List PySem.Expr} {x32m5r : Option PySem.Expr} {x32m5t : List TypeParam} {sf32m5 : PySem.Scope} {x32m5u : Option PySem.Scope} {x32m5v : Str} {x32m5p : Pos} {x32m6n : Str} {af32m6 : Arguments} {bf32m6 : List Stmt} {x32m6d : List PySem.Expr} {x32m6r : Option PySem.Expr} {x32m6t : List TypeParam} {sf32m6 : PySem.Scope} {x32m6u : Option PySem.Scope} {x32m6v : Str} {x32m6p : Pos} {x32m7n : Str} {af32m7 : Arguments} {bf32m7 : List Stmt} {x32m7d : List PySem.Expr} {x32m7r : Option PySem.Expr} {x32m7t : List TypeParam} {sf32m7 : PySem.Scope} {x32m7u : Option PySem.Scope} {x32m7v : Str} {x32m7p : Pos} {x32m8n : Str} {af32m8 : Arguments} {bf32m8 : List Stmt} {x32m8d : List PySem.Expr} {x32m8r : Option PySem.Expr} {x32m8t : List TypeParam} {sf32m8 : PySem.Scope} {x32m8u : Option PySem.Scope} {x32m8v : Str} {x32m8p : Pos} {x32m9n : Str} {af32m9 : Arguments} {bf32m9 : List Stmt} {x32m9d : List PySem.Expr} {x32m9r : Option PySem.Expr} {x32m9t : List TypeParam} {sf32m9 : PySem.Scope} {x32m9u : Option PySem.Scope} {x32m9v : Str} {x32m9p : Pos} {x32m10n : Str} {af32m10 : Arguments} {bf32m10 : List Stmt} {x32m10d : List PySem.Expr} {x32m10r : Option PySem.Expr} {x32m10t : List TypeParam} {sf32m10 : PySem.Scope} {x32m10u : Option PySem.Scope} {x32m10v : Str} {x32m10p : Pos} {x32m11n : Str} {af32m11 : Arguments} {bf32m11 : List Stmt} {x32m11d : List PySem.Expr} {x32m11r : Option PySem.Expr} {x32m11t : List TypeParam} {sf32m11 : PySem.Scope} {x32m11u : Option PySem.Scope} {x32m11v : Str} {x32m11p : Pos} {c32n : Str} {c32b : List PySem.Expr} {c32k : List Keyword} {c32d : List PySem.Expr} {c32t : List TypeParam} {c32s : PySem.Scope} {c32u : Option PySem.Scope} {c32v : Str} {c32a : List Str} {c32p : Pos} {x33n : Str} {af33 : Arguments} {bf33 : List Stmt} {x33d : List PySem.Expr} {x33r : Option PySem.Expr} {x33t : List TypeParam} {sf33 : PySem.Scope} {x33u : Option PySem.Scope} {x33v : Str} {x33p : Pos} {x34n : Str} {af34 : Arguments} {bf34 : List Stmt} {x34d : List PySem.Expr} {x34r : Option PySem.Expr} {x34t : List TypeParam} {sf34 : PySem.Scope} {x34u : Option PySem.Scope} {x34v : Str} {x34p : Pos} {x35n : Str} {af35 : Arguments} {bf35 : List Stmt} {x35d : List PySem.Expr} {x35r : Option PySem.Expr} {x35t : List TypeParam} {sf35 : PySem.Scope} {x35u : Option PySem.Scope} {x35v : Str} {x35p : Pos} {x36n : Str} {af36 : Arguments} {bf36 : List Stmt} {x36d : List PySem.Expr} {x36r : Option PySem.Expr} {x36t : List TypeParam} {sf36 : PySem.Scope} {x36u : Option PySem.Scope} {x36v : Str} {x36p : Pos} {x37 : Stmt} {x38 : Stmt} {x39 : Stmt} {x40 : Stmt} {x41 : Stmt} {x42 : Stmt} {x43 : Stmt} {x44 : Stmt} {x45 : Stmt} {x46n : Str} {af46 : Arguments} {bf46 : List Stmt} {x46d : List PySem.Expr} {x46r : Option PySem.Expr} {x46t : List TypeParam} {sf46 : PySem.Scope} {x46u : Option PySem.Scope} {x46v : Str} {x46p : Pos} {x47n : Str} {af47 : Arguments} {bf47 : List Stmt} {x47d : List PySem.Expr} {x47r : Option PySem.Expr} {x47t : List TypeParam} {sf47 : PySem.Scope} {x47u : Option PySem.Scope} {x47v : Str} {x47p : Pos} {x48n : Str} {af48 : Arguments} {bf48 : List Stmt} {x48d : List PySem.Expr} {x48r : Option PySem.Expr} {x48t : List TypeParam} {sf48 : PySem.Scope} {x48u : Option PySem.Scope} {x48v : Str} {x48p : Pos} {x49n : Str} {af49 : Arguments} {bf49 : List Stmt} {x49d : List PySem.Expr} {x49r : Option PySem.Expr} {x49t : List TypeParam} {sf49 : PySem.Scope} {x49u : Option PySem.Scope} {x49v : Str} {x49p : Pos} {x50n : Str} {af50 : Arguments} {bf50 : List Stmt} {x50d : List PySem.Expr} {x50r : Option PySem.Expr} {x50t : List TypeParam} {sf50 : PySem.Scope} {x50u : Option PySem.Scope} {x50v : Str} {x50p : Pos} {x51n : Str} {af51 : Arguments} {bf51 : List Stmt} {x51d : List PySem.Expr} {x51r : Option PySem.Expr} {x51t : List TypeParam} {sf51 : PySem.Scope} {x51u : Option PySem.Scope} {x51v : Str} {x51p : Pos} {x52n : Str} {af52 : Arguments} {bf52 : List Stmt} {x52d : List PySem.Expr} {x52r : Option PySem.Expr} {x52t : List TypeParam} {sf52 : PySem.Scope} {x52u : Option PySem.Scope} {x52v : Str} {x52p : Pos} {x53n : Str} {af53 : Arguments} {bf53 : List Stmt} {x53d : List PySem.Expr} {x53r : Option PySem.Expr} {x53t : List TypeParam} {sf53 : PySem.Scope} {x53u : Option PySem.Scope} {x53v : Str} {x53p : Pos} {x54n : Str} {af54 : Arguments} {bf54 : List Stmt} {x54d : List PySem.Expr} {x54r : Option PySem.Expr} {x54t : List TypeParam} {sf54 : PySem.Scope} {x54u : Option PySem.Scope} {x54v : Str} {x54p : Pos} {x55n : Str} {af55 : Arguments} {bf55 : List Stmt} {x55d : List PySem.Expr} {x55r : Option PySem.Expr} {x55t : List TypeParam} {sf55 : PySem.Scope} {x55u : Option PySem.Scope} {x55v : Str} {x55p : Pos} {x56 : Stmt} {x57m0n : Str} {af57m0 : Arguments} {bf57m0 : List Stmt} {x57m0d : List PySem.Expr} {x57m0r : Option PySem.Expr} {x57m0t : List TypeParam} {sf57m0 : PySem.Scope} {x57m0u : Option PySem.Scope} {x57m0v : Str} {x57m0p : Pos} {c57n : Str} {c57b : List PySem.Expr} {c57k : List Keyword} {c57d : List PySem.Expr} {c57t : List TypeParam} {c57s : PySem.Scope} {c57u : Option PySem.Scope} {c57v : Str} {c57a : List Str} {c57p : Pos} {x58 : Stmt} {x59n : Str} {af59 : Arguments} {bf59 : List Stmt} {x59d : List PySem.Expr} {x59r : Option PySem.Expr} {x59t : List TypeParam} {sf59 : PySem.Scope} {x59u : Option PySem.Scope} {x59v : Str} {x59p : Pos} {x60n : Str} {af60 : Arguments} {bf60 : List Stmt} {x60d : List PySem.Expr} {x60r : Option PySem.Expr} {x60t : List TypeParam} {sf60 : PySem.Scope} {x60u : Option PySem.Scope} {x60v : Str} {x60p : Pos} {x61n : Str} {af61 : Arguments} {bf61 : List Stmt} {x61d : List PySem.Expr} {x61r : Option PySem.Expr} {x61t : List TypeParam} {sf61 : PySem.Scope} {x61u : Option PySem.Scope} {x61v : Str} {x61p : Pos} {x62n : Str} {af62 : Arguments} {bf62 : List Stmt} {x62d : List PySem.Expr} {x62r : Option PySem.Expr} {x62t : List TypeParam} {sf62 : PySem.Scope} {x62u : Option PySem.Scope} {x62v : Str} {x62p : Pos} {x63n : Str} {af63 : Arguments} {bf63 : List Stmt} {x63d : List PySem.Expr} {x63r : Option PySem.Expr} {x63t : List TypeParam} {sf63 : PySem.Scope} {x63u : Option PySem.Scope} {x63v : Str} {x63p : Pos} {x64n : Str} {af64 : Arguments} {bf64 : List Stmt} {x64d : List PySem.Expr} {x64r : Option PySem.Expr} {x64t : List TypeParam} {sf64 : PySem.Scope} {x64u : Option PySem.Scope} {x64v : Str} {x64p : Pos} {x65n : Str} {af65 : Arguments} {bf65 : List Stmt} {x65d : List PySem.Expr} {x65r : Option PySem.Expr} {x65t : List TypeParam} {sf65 : PySem.Scope} {x65u : Option PySem.Scope} {x65v : Str} {x65p : Pos} {x66n : Str} {af66 : Arguments} {bf66 : List Stmt} {x66d : List PySem.Expr} {x66r : Option PySem.Expr} {x66t : List TypeParam} {sf66 : PySem.Scope} {x66u : Option PySem.Scope} {x66v : Str} {x66p : Pos} (_h : PySem.Challenge.pw_og0184_01.main.body = [.FunctionDef x0n af0 bf0 x0d x0r x0t sf0 x0u x0v x0p, x1, x2, x3, x4, x5, x6, .FunctionDef x7n af7 bf7 x7d x7r x7t sf7 x7u x7v x7p, .FunctionDef x8n af8 bf8 x8d x8r x8t sf8 x8u x8v x8p, .FunctionDef x9n af9 bf9 x9d x9r x9t sf9 x9u x9v x9p, .FunctionDef x10n af10 bf10 x10d x10r x10t sf10 x10u x10v x10p, .FunctionDef x11n af11 bf11 x11d x11r x11t sf11 x11u x11v x11p, x12, x13, x14, x15, x16, x17, x18, .FunctionDef x19n af19 bf19 x19d x19r x19t sf19 x19u x19v x19p, .FunctionDef x20n af20 bf20 x20d x20r x20t sf20 x20u x20v x20p, .FunctionDef x21n af21 bf21 x21d x21r x21t sf21 x21u x21v x21p, .ClassDef c22n c22b c22k [.FunctionDef x22m0n af22m0 bf22m0 x22m0d x22m0r x22m0t sf22m0 x22m0u x22m0v x22m0p, .FunctionDef x22m1n af22m1 bf22m1 x22m1d x22m1r x22m1t sf22m1 x22m1u x22m1v x22m1p, .FunctionDef x22m2n af22m2 bf22m2 x22m2d x22m2r x22m2t sf22m2 x22m2u x22m2v x22m2p, .FunctionDef x22m3n af22m3 bf22m3 x22m3d x22m3r x22m3t sf22m3 x22m3u x22m3v x22m3p, .FunctionDef x22m4n af22m4 bf22m4 x22m4d x22m4r x22m4t sf22m4 x22m4u x22m4v x22m4p, .FunctionDef x22m5n af22m5 bf22m5 x22m5d x22m5r x22m5t sf22m5 x22m5u x22m5v x22m5p, .FunctionDef x22m6n af22m6 bf22m6 x22m6d x22m6r x22m6t sf22m6 x22m6u x22m6v x22m6p, .FunctionDef x22m7n af22m7 bf22m7 x22m7d x22m7r x22m7t sf22m7 x22m7u x22m7v x22m7p, .FunctionDef x22m8n af22m8 bf22m8 x22m8d x22m8r x22m8t sf22m8 x22m8u x22m8v x22m8p, .FunctionDef x22m9n af22m9 bf22m9 x22m9d x22m9r x22m9t sf22m9 x22m9u x22m9v x22m9p, .FunctionDef x22m10n af22m10 bf22m10 x22m10d x22m10r x22m10t sf22m10 x22m10u x22m10v x22m10p, .FunctionDef x22m11n af22m11 bf22m11 x22m11d x22m11r x22m11t sf22m11 x22m11u x22m11v x22m11p, .FunctionDef x22m12n af22m12 bf22m12 x22m12d x22m12r x22m12t sf22m12 x22m12u x22m12v x22m12p] c22d c22t c22s c22u c22v c22a c22p, x23, .ClassDef c24n c24b c24k [.FunctionDef x24m0n af24m0 bf24m0 x24m0d x24m0r x24m0t sf24m0 x24m0u x24m0v x24m0p, .FunctionDef x24m1n af24m1 bf24m1 x24m1d x24m1r x24m1t sf24m1 x24m1u x24m1v x24m1p] c24d c24t c24s c24u c24v c24a c24p, x25, x26, x27, x28, x29, x30, x31, .ClassDef c32n c32b c32k [.FunctionDef x32m0n af32m0 bf32m0 x32m0d x32m0r x32m0t sf32m0 x32m0u x32m0v x32m0p, .FunctionDef x32m1n af32m1 bf32m1 x32m1d x32m1r x32m1t sf32m1 x32m1u x32m1v x32m1p, .FunctionDef x32m2n af32m2 bf32m2 x32m2d x32m2r x32m2t sf32m2 x32m2u x32m2v x32m2p, .FunctionDef x32m3n af32m3 bf32m3 x32m3d x32m3r x32m3t sf32m3 x32m3u x32m3v x32m3p, .FunctionDef x32m4n af32m4 bf32m4 x32m4d x32m4r x32m4t sf32m4 x32m4u x32m4v x32m4p, .FunctionDef x32m5n af32m5 bf32m5 x32m5d x32m5r x32m5t sf32m5 x32m5u x32m5v x32m5p, .FunctionDef x32m6n af32m6 bf32m6 x32m6d x32m6r x32m6t sf32m6 x32m6u x32m6v x32m6p, .FunctionDef x32m7n af32m7 bf32m7 x32m7d x32m7r x32m7t sf32m7 x32m7u x32m7v x32m7p, .FunctionDef x32m8n af32m8 bf32m8 x32m8d x32m8r x32m8t sf32m8 x32m8u x32m8v x32m8p, .FunctionDef x32m9n af32m9 bf32m9 x32m9d x32m9r x32m9t sf32m9 x32m9u x32m9v x32m9p, .FunctionDef x32m10n af32m10 bf32m10 x32m10d x32m10r x32m10t sf32m10 x32m10u x32m10v x32m10p, .FunctionDef x32m11n af32m11 bf32m11 x32m11d x32m11r x32m11t sf32m11 x32m11u x32m11v x32m11p] c32d c32t c32s c32u c32v c32a c32p, .FunctionDef x33n af33 bf33 x33d x33r x33t sf33 x33u x33v x33p, .FunctionDef x34n af34 bf34 x34d x34r x34t sf34 x34u x34v x34p, .FunctionDef x35n af35 bf35 x35d x35r x35t sf35 x35u x35v x35p, .FunctionDef x36n af36 bf36 x36d x36r x36t sf36 x36u x36v x36p, x37, x38, x39, x40, x41, x42, x43, x44, x45, .FunctionDef x46n af46 bf46 x46d x46r x46t sf46 x46u x46v x46p, .FunctionDef x47n af47 bf47 x47d x47r x47t sf47 x47u x47v x47p, .FunctionDef x48n af48 bf48 x48d x48r x48t sf48 x48u x48v x48p, .FunctionDef x49n af49 bf49 x49d x49r x49t sf49 x49u x49v x49p, .FunctionDef x50n af50 bf50 x50d x50r x50t sf50 x50u x50v x50p, .FunctionDef x51n af51 bf51 x51d x51r x51t sf51 x51u x51v x51p, .FunctionDef x52n af52 bf52 x52d x52r x52t sf52 x52u x52v x52p, .FunctionDef x53n af53 bf53 x53d x53r x53t sf53 x53u x53v x53p, .FunctionDef x54n af54 bf54 x54d x54r x54t sf54 x54u x54v x54p, .FunctionDef x55n af55 bf55 x55d x55r x55t sf55 x55u x55v x55p, x56, .ClassDef c57n c57b c57k [.FunctionDef x57m0n af57m0 bf57m0 x57m0d x57m0r x57m0t sf57m0 x57m0u x57m0v x57m0p] c57d c57t c57s c57u c57v c57a c57p, x58, .FunctionDef x59n af59 bf59 x59d x59r x59t sf59 x59u x59v x59p, .FunctionDef x60n af60 bf60 x60d x60r x60t sf60 x60u x60v x60p, .FunctionDef x61n af61 bf61 x61d x61r x61t sf61 x61u x61v x61p, .FunctionDef x62n af62 bf62 x62d x62r x62t sf62 x62u x62v x62p, .FunctionDef x63n af63 bf63 x63d x63r x63t sf63 x63u x63v x63p, .FunctionDef x64n af64 bf64 x64d x64r x64t sf64 x64u x64v x64p, .FunctionDef x65n af65 bf65 x65d x65r x65t sf65 x65u x65v x65p, .FunctionDef x66n af66 bf66 x66d x66r x66t sf66 x66u x66v x66p]) (P : Params) => (
  (nat_lit 2, Obj.mk Value.none none (Data.dict #[DictEntry.mk (PyData.keyHash P (Str.ofString "type.__subclasses__.Exception.0")) (Value.str (Str.ofString "type.__subclasses__.Exception.0") 473) (Value.int 211 0), DictEntry.mk (PyData.keyHash P (Str.ofString "type.__subclasses__.Exception.n")) (Value.str (Str.ofString "type.__subclasses__.Exception.n") 474) (Value.int 1 0)] 2) #[]) ::
  (nat_lit 3, Obj.mk (Value.type "dict") none (Data.dict #[DictEntry.mk (PyData.keyHash P (Str.ofString "__name__")) (Value.str (Str.ofString "__name__") 165) (Value.str (Str.ofString "law_og0184_01") 800), DictEntry.mk (PyData.keyHash P (Str.ofString "__doc__")) (Value.str (Str.ofString "__doc__") 166) Value.none, DictEntry.mk (PyData.keyHash P (Str.ofString "__package__")) (Value.str (Str.ofString "__package__") 167) Value.none, DictEntry.mk (PyData.keyHash P (Str.ofString "__loader__")) (Value.str (Str.ofString "__loader__") 168) (Value.builtin "__main__.__loader__#opaque"), DictEntry.mk (PyData.keyHash P (Str.ofString "__spec__")) (Value.str (Str.ofString "__spec__") 169) Value.none, DictEntry.mk (PyData.keyHash P (Str.ofString "__annotations__")) (Value.str (Str.ofString "__annotations__") 170) (Value.ref 6), DictEntry.mk (PyData.keyHash P (Str.ofString "__builtins__")) (Value.str (Str.ofString "__builtins__") 171) (Value.ref 4), DictEntry.mk (PyData.keyHash P (Str.ofString "__file__")) (Value.str (Str.ofString "__file__") 173) (Value.str (Str.ofString "/claim/cut.py") 172), DictEntry.mk (PyData.keyHash P (Str.ofString "__cached__")) (Value.str (Str.ofString "__cached__") 174) Value.none, DictEntry.mk (PyData.keyHash P (Str.ofString "_wall")) (Value.str (Str.ofString "_wall") 193) (Value.ref 21), DictEntry.mk (PyData.keyHash P (Str.ofString "BACKSLASH_writer")) (Value.str (Str.ofString "BACKSLASH_writer") 197) (Value.int 92 196), DictEntry.mk (PyData.keyHash P (Str.ofString "OPEN_BRACKET")) (Value.str (Str.ofString "OPEN_BRACKET") 199) (Value.int 40 198), DictEntry.mk (PyData.keyHash P (Str.ofString "CLOSE_BRACKET")) (Value.str (Str.ofString "CLOSE_BRACKET") 201) (Value.int 41 200), DictEntry.mk (PyData.keyHash P (Str.ofString "CARRIAGE")) (Value.str (Str.ofString "CARRIAGE") 203) (Value.int 13 202), DictEntry.mk (PyData.keyHash P (Str.ofString "HEX_FIGURES")) (Value.str (Str.ofString "HEX_FIGURES") 205) (Value.bytes #[48, 49, 50, 51, 52, 53, 54, 55, 56, 57, 65, 66, 67, 68, 69, 70] 204), DictEntry.mk (PyData.keyHash P (Str.ofString "hex_pair")) (Value.str (Str.ofString "hex_pair") 212) (Value.ref 28), DictEntry.mk (PyData.keyHash P (Str.ofString "lone_brackets")) (Value.str (Str.ofString "lone_brackets") 222) (Value.ref 35), DictEntry.mk (PyData.keyHash P (Str.ofString "literal_octets")) (Value.str (Str.ofString "literal_octets") 233) (Value.ref 42), DictEntry.mk (PyData.keyHash P (Str.ofString "hex_octets")) (Value.str (Str.ofString "hex_octets") 242) (Value.ref 49), DictEntry.mk (PyData.keyHash P (Str.ofString "string_octets")) (Value.str (Str.ofString "string_octets") 252) (Value.ref 56), DictEntry.mk (PyData.keyHash P (Str.ofString "WHITE")) (Value.str (Str.ofString "WHITE") 261) (Value.ref 57), DictEntry.mk (PyData.keyHash P (Str.ofString "DELIMITERS")) (Value.str (Str.ofString "DELIMITERS") 272) (Value.ref 58), DictEntry.mk (PyData.keyHash P (Str.ofString "LINE_FEED")) (Value.str (Str.ofString "LINE_FEED") 274) (Value.int 10 273), DictEntry.mk (PyData.keyHash P (Str.ofString "RETURN")) (Value.str (Str.ofString "RETURN") 276) (Value.int 13 275), DictEntry.mk (PyData.keyHash P (Str.ofString "COMMENT")) (Value.str (Str.ofString "COMMENT") 278) (Value.int 37 277), DictEntry.mk (PyData.keyHash P (Str.ofString "MOST_FIGURES_cursor")) (Value.str (Str.ofString "MOST_FIGURES_cursor") 280) (Value.int 20 279), DictEntry.mk (PyData.keyHash P (Str.ofString "is_white")) (Value.str (Str.ofString "is_white") 287) (Value.ref 65), DictEntry.mk (PyData.keyHash P (Str.ofString "is_regular")) (Value.str (Str.ofString "is_regular") 294) (Value.ref 72), DictEntry.mk (PyData.keyHash P (Str.ofString "is_figure")) (Value.str (Str.ofString "is_figure") 301) (Value.ref 79), DictEntry.mk (PyData.keyHash P (Str.ofString "Cursor")) (Value.str (Str.ofString "Cursor") 434) (Value.ref 182), DictEntry.mk (PyData.keyHash P (Str.ofString "PaperError")) (Value.str (Str.ofString "PaperError") 476) (Value.ref 211), DictEntry.mk (PyData.keyHash P (Str.ofString "SyntaxFault")) (Value.str (Str.ofString "SyntaxFault") 492) (Value.ref 224), DictEntry.mk (PyData.keyHash P (Str.ofString "MOST_FIGURES_decimals")) (Value.str (Str.ofString "MOST_FIGURES_decimals") 496) (Value.int 40 495), DictEntry.mk (PyData.keyHash P (Str.ofString "PLUS")) (Value.str (Str.ofString "PLUS") 498) (Value.int 43 497), DictEntry.mk (PyData.keyHash P (Str.ofString "MINUS")) (Value.str (Str.ofString "MINUS") 500) (Value.int 45 499), DictEntry.mk (PyData.keyHash P (Str.ofString "POINT")) (Value.str (Str.ofString "POINT") 502) (Value.int 46 501), DictEntry.mk (PyData.keyHash P (Str.ofString "ZERO")) (Value.str (Str.ofString "ZERO") 504) (Value.int 48 503), DictEntry.mk (PyData.keyHash P (Str.ofString "Decimal")) (Value.str (Str.ofString "Decimal") 618) (Value.ref 320), DictEntry.mk (PyData.keyHash P (Str.ofString "sign_text")) (Value.str (Str.ofString "sign_text") 625) (Value.ref 331), DictEntry.mk (PyData.keyHash P (Str.ofString "sign_of")) (Value.str (Str.ofString "sign_of") 632) (Value.ref 338), DictEntry.mk (PyData.keyHash P (Str.ofString "rounded_quotient")) (Value.str (Str.ofString "rounded_quotient") 641) (Value.ref 345), DictEntry.mk (PyData.keyHash P (Str.ofString "read_decimal")) (Value.str (Str.ofString "read_decimal") 653) (Value.ref 352), DictEntry.mk (PyData.keyHash P (Str.ofString "PAREN")) (Value.str (Str.ofString "PAREN") 657) (Value.int 40 656), DictEntry.mk (PyData.keyHash P (Str.ofString "CLOSE_PAREN")) (Value.str (Str.ofString "CLOSE_PAREN") 659) (Value.int 41 658), DictEntry.mk (PyData.keyHash P (Str.ofString "LESS")) (Value.str (Str.ofString "LESS") 661) (Value.int 60 660), DictEntry.mk (PyData.keyHash P (Str.ofString "GREATER")) (Value.str (Str.ofString "GREATER") 663) (Value.int 62 662), DictEntry.mk (PyData.keyHash P (Str.ofString "SLASH")) (Value.str (Str.ofString "SLASH") 665) (Value.int 47 664), DictEntry.mk (PyData.keyHash P (Str.ofString "BACKSLASH_lexer")) (Value.str (Str.ofString "BACKSLASH_lexer") 667) (Value.int 92 666), DictEntry.mk (PyData.keyHash P (Str.ofString "HASH")) (Value.str (Str.ofString "HASH") 669) (Value.int 35 668), DictEntry.mk (PyData.keyHash P (Str.ofString "SIGNS")) (Value.str (Str.ofString "SIGNS") 674) (Value.ref 353), DictEntry.mk (PyData.keyHash P (Str.ofString "hex_worth")) (Value.str (Str.ofString "hex_worth") 681) (Value.ref 360), DictEntry.mk (PyData.keyHash P (Str.ofString "plain_escape")) (Value.str (Str.ofString "plain_escape") 688) (Value.ref 367), DictEntry.mk (PyData.keyHash P (Str.ofString "name_text")) (Value.str (Str.ofString "name_text") 703) (Value.ref 375), DictEntry.mk (PyData.keyHash P (Str.ofString "octal")) (Value.str (Str.ofString "octal") 713) (Value.ref 382), DictEntry.mk (PyData.keyHash P (Str.ofString "escaped_codes")) (Value.str (Str.ofString "escaped_codes") 721) (Value.ref 389), DictEntry.mk (PyData.keyHash P (Str.ofString "literal")) (Value.str (Str.ofString "literal") 732) (Value.ref 396), DictEntry.mk (PyData.keyHash P (Str.ofString "hex_string")) (Value.str (Str.ofString "hex_string") 738) (Value.ref 401), DictEntry.mk (PyData.keyHash P (Str.ofString "run_token")) (Value.str (Str.ofString "run_token") 748) (Value.ref 408), DictEntry.mk (PyData.keyHash P (Str.ofString "delimited_token")) (Value.str (Str.ofString "delimited_token") 757) (Value.ref 415), DictEntry.mk (PyData.keyHash P (Str.ofString "next_token")) (Value.str (Str.ofString "next_token") 766) (Value.ref 422), DictEntry.mk (PyData.keyHash P (Str.ofString "String")) (Value.str (Str.ofString "String") 799) (Value.ref 440), DictEntry.mk (PyData.keyHash P (Str.ofString "_law_pen")) (Value.str (Str.ofString "_law_pen") 807) (Value.ref 449), DictEntry.mk (PyData.keyHash P (Str.ofString "_law_draw")) (Value.str (Str.ofString "_law_draw") 816) (Value.ref 456), DictEntry.mk (PyData.keyHash P (Str.ofString "_law_pick")) (Value.str (Str.ofString "_law_pick") 824) (Value.ref 463), DictEntry.mk (PyData.keyHash P (Str.ofString "_law_octets")) (Value.str (Str.ofString "_law_octets") 830) (Value.ref 468), DictEntry.mk (PyData.keyHash P (Str.ofString "_law_lone")) (Value.str (Str.ofString "_law_lone") 844) (Value.ref 475), DictEntry.mk (PyData.keyHash P (Str.ofString "_law_read")) (Value.str (Str.ofString "_law_read") 855) (Value.ref 482), DictEntry.mk (PyData.keyHash P (Str.ofString "_law_string_holds")) (Value.str (Str.ofString "_law_string_holds") 861) (Value.ref 487), DictEntry.mk (PyData.keyHash P (Str.ofString "law")) (Value.str (Str.ofString "law") 871) (Value.ref 494)] 69) #[]) ::
  (nat_lit 15, Obj.mk (Value.type "tuple") none (Data.seq #[]) #[]) ::
  (nat_lit 17, Obj.mk (Value.type "tuple") none (Data.seq #[Value.str (Str.ofString "k") 190]) #[]) ::
  (nat_lit 18, Obj.mk (Value.type "tuple") none (Data.seq #[]) #[]) ::
  (nat_lit 20, Obj.mk (Value.type "code") none (Data.fields #[Value.str (Str.ofString "_wall") 187, Value.str (Str.ofString "_wall") 188, Value.str (Str.ofString "/claim/cut.py") 189, Value.int 1 0, Value.int 1 0, Value.int 0 0, Value.int 0 0, Value.int 3 0, Value.ref 15, Value.bool true, Value.int 181 0, Value.ref 16, Value.none, Value.ref 17, Value.ref 18, Value.ref 19, Value.int 191 0, Value.int 1 0, Value.str (Str.ofString "/claim/cut.py") 192]) #[]) ::
  (nat_lit 21, Obj.mk (Value.type "function") none (Data.func (FuncData.mk (Str.ofString "_wall") (Str.ofString "_wall") af0 (FuncBody.stmts bf0) sf0 3 [] Value.none Value.none Value.none (Value.str (Str.ofString "__main__") 164) none (Value.ref 20) Value.none 0)) #[]) ::
  (nat_lit 22, Obj.mk (Value.type "tuple") none (Data.seq #[]) #[]) ::
  (nat_lit 24, Obj.mk (Value.type "tuple") none (Data.seq #[Value.str (Str.ofString "code") 209]) #[]) ::
  (nat_lit 25, Obj.mk (Value.type "tuple") none (Data.seq #[]) #[]) ::
  (nat_lit 27, Obj.mk (Value.type "code") none (Data.fields #[Value.str (Str.ofString "hex_pair") 206, Value.str (Str.ofString "hex_pair") 207, Value.str (Str.ofString "/claim/cut.py") 208, Value.int 10 0, Value.int 1 0, Value.int 0 0, Value.int 0 0, Value.int 3 0, Value.ref 22, Value.bool true, Value.int 181 0, Value.ref 23, Value.none, Value.ref 24, Value.ref 25, Value.ref 26, Value.int 210 0, Value.int 10 0, Value.str (Str.ofString "/claim/cut.py") 211]) #[]) ::
  (nat_lit 28, Obj.mk (Value.type "function") none (Data.func (FuncData.mk (Str.ofString "hex_pair") (Str.ofString "hex_pair") af7 (FuncBody.stmts bf7) sf7 3 [] Value.none Value.none Value.none (Value.str (Str.ofString "paperhold.writer") 194) none (Value.ref 27) Value.none 0)) #[]) ::
  (nat_lit 29, Obj.mk (Value.type "tuple") none (Data.seq #[]) #[]) ::
  (nat_lit 31, Obj.mk (Value.type "tuple") none (Data.seq #[Value.str (Str.ofString "octets") 216, Value.str (Str.ofString "open_ones") 217, Value.str (Str.ofString "lone") 218, Value.str (Str.ofString "at") 219]) #[]) ::
  (nat_lit 32, Obj.mk (Value.type "tuple") none (Data.seq #[]) #[]) ::
  (nat_lit 34, Obj.mk (Value.type "code") none (Data.fields #[Value.str (Str.ofString "lone_brackets") 213, Value.str (Str.ofString "lone_brackets") 214, Value.str (Str.ofString "/claim/cut.py") 215, Value.int 12 0, Value.int 1 0, Value.int 0 0, Value.int 0 0, Value.int 3 0, Value.ref 29, Value.bool true, Value.int 181 0, Value.ref 30, Value.none, Value.ref 31, Value.ref 32, Value.ref 33, Value.int 220 0, Value.int 12 0, Value.str (Str.ofString "/claim/cut.py") 221]) #[]) ::
  (nat_lit 35, Obj.mk (Value.type "function") none (Data.func (FuncData.mk (Str.ofString "lone_brackets") (Str.ofString "lone_brackets") af8 (FuncBody.stmts bf8) sf8 3 [] Value.none Value.none Value.none (Value.str (Str.ofString "paperhold.writer") 194) none (Value.ref 34) Value.none 0)) #[]) ::
  (nat_lit 36, Obj.mk (Value.type "tuple") none (Data.seq #[]) #[]) ::
  (nat_lit 38, Obj.mk (Value.type "tuple") none (Data.seq #[Value.str (Str.ofString "octets") 226, Value.str (Str.ofString "lone") 227, Value.str (Str.ofString "found") 228, Value.str (Str.ofString "at") 229, Value.str (Str.ofString "code") 230]) #[]) ::
  (nat_lit 39, Obj.mk (Value.type "tuple") none (Data.seq #[]) #[]) ::
  (nat_lit 41, Obj.mk (Value.type "code") none (Data.fields #[Value.str (Str.ofString "literal_octets") 223, Value.str (Str.ofString "literal_octets") 224, Value.str (Str.ofString "/claim/cut.py") 225, Value.int 26 0, Value.int 1 0, Value.int 0 0, Value.int 0 0, Value.int 3 0, Value.ref 36, Value.bool true, Value.int 181 0, Value.ref 37, Value.none, Value.ref 38, Value.ref 39, Value.ref 40, Value.int 231 0, Value.int 26 0, Value.str (Str.ofString "/claim/cut.py") 232]) #[]) ::
  (nat_lit 42, Obj.mk (Value.type "function") none (Data.func (FuncData.mk (Str.ofString "literal_octets") (Str.ofString "literal_octets") af9 (FuncBody.stmts bf9) sf9 3 [] Value.none Value.none Value.none (Value.str (Str.ofString "paperhold.writer") 194) none (Value.ref 41) Value.none 0)) #[]) ::
  (nat_lit 43, Obj.mk (Value.type "tuple") none (Data.seq #[]) #[]) ::
  (nat_lit 45, Obj.mk (Value.type "tuple") none (Data.seq #[Value.str (Str.ofString "octets") 237, Value.str (Str.ofString "found") 238, Value.str (Str.ofString "code") 239]) #[]) ::
  (nat_lit 46, Obj.mk (Value.type "tuple") none (Data.seq #[]) #[]) ::
  (nat_lit 48, Obj.mk (Value.type "code") none (Data.fields #[Value.str (Str.ofString "hex_octets") 234, Value.str (Str.ofString "hex_octets") 235, Value.str (Str.ofString "/claim/cut.py") 236, Value.int 39 0, Value.int 1 0, Value.int 0 0, Value.int 0 0, Value.int 3 0, Value.ref 43, Value.bool true, Value.int 181 0, Value.ref 44, Value.none, Value.ref 45, Value.ref 46, Value.ref 47, Value.int 240 0, Value.int 39 0, Value.str (Str.ofString "/claim/cut.py") 241]) #[]) ::
  (nat_lit 49, Obj.mk (Value.type "function") none (Data.func (FuncData.mk (Str.ofString "hex_octets") (Str.ofString "hex_octets") af10 (FuncBody.stmts bf10) sf10 3 [] Value.none Value.none Value.none (Value.str (Str.ofString "paperhold.writer") 194) none (Value.ref 48) Value.none 0)) #[]) ::
  (nat_lit 50, Obj.mk (Value.type "tuple") none (Data.seq #[]) #[]) ::
  (nat_lit 52, Obj.mk (Value.type "tuple") none (Data.seq #[Value.str (Str.ofString "value") 246, Value.str (Str.ofString "is_least") 247, Value.str (Str.ofString "rounded_form") 248, Value.str (Str.ofString "angled_form") 249]) #[]) ::
  (nat_lit 53, Obj.mk (Value.type "tuple") none (Data.seq #[]) #[]) ::
  (nat_lit 55, Obj.mk (Value.type "code") none (Data.fields #[Value.str (Str.ofString "string_octets") 243, Value.str (Str.ofString "string_octets") 244, Value.str (Str.ofString "/claim/cut.py") 245, Value.int 45 0, Value.int 2 0, Value.int 0 0, Value.int 0 0, Value.int 3 0, Value.ref 50, Value.bool true, Value.int 181 0, Value.ref 51, Value.none, Value.ref 52, Value.ref 53, Value.ref 54, Value.int 250 0, Value.int 45 0, Value.str (Str.ofString "/claim/cut.py") 251]) #[]) ::
  (nat_lit 56, Obj.mk (Value.type "function") none (Data.func (FuncData.mk (Str.ofString "string_octets") (Str.ofString "string_octets") af11 (FuncBody.stmts bf11) sf11 3 [] Value.none Value.none Value.none (Value.str (Str.ofString "paperhold.writer") 194) none (Value.ref 55) Value.none 0)) #[]) ::
  (nat_lit 57, Obj.mk (Value.type "tuple") none (Data.seq #[Value.int 0 255, Value.int 9 256, Value.int 10 257, Value.int 12 258, Value.int 13 259, Value.int 32 260]) #[]) ::
  (nat_lit 58, Obj.mk (Value.type "tuple") none (Data.seq #[Value.int 40 262, Value.int 41 263, Value.int 60 264, Value.int 62 265, Value.int 91 266, Value.int 93 267, Value.int 123 268, Value.int 125 269, Value.int 47 270, Value.int 37 271]) #[]) ::
  (nat_lit 59, Obj.mk (Value.type "tuple") none (Data.seq #[]) #[]) ::
  (nat_lit 61, Obj.mk (Value.type "tuple") none (Data.seq #[Value.str (Str.ofString "code") 284]) #[]) ::
  (nat_lit 62, Obj.mk (Value.type "tuple") none (Data.seq #[]) #[]) ::
  (nat_lit 64, Obj.mk (Value.type "code") none (Data.fields #[Value.str (Str.ofString "is_white") 281, Value.str (Str.ofString "is_white") 282, Value.str (Str.ofString "/claim/cut.py") 283, Value.int 58 0, Value.int 1 0, Value.int 0 0, Value.int 0 0, Value.int 3 0, Value.ref 59, Value.bool true, Value.int 181 0, Value.ref 60, Value.none, Value.ref 61, Value.ref 62, Value.ref 63, Value.int 285 0, Value.int 58 0, Value.str (Str.ofString "/claim/cut.py") 286]) #[]) ::
  (nat_lit 65, Obj.mk (Value.type "function") none (Data.func (FuncData.mk (Str.ofString "is_white") (Str.ofString "is_white") af19 (FuncBody.stmts bf19) sf19 3 [] Value.none Value.none Value.none (Value.str (Str.ofString "paperhold.cursor") 253) none (Value.ref 64) Value.none 0)) #[]) ::
  (nat_lit 66, Obj.mk (Value.type "tuple") none (Data.seq #[]) #[]) ::
  (nat_lit 68, Obj.mk (Value.type "tuple") none (Data.seq #[Value.str (Str.ofString "code") 291]) #[]) ::
  (nat_lit 69, Obj.mk (Value.type "tuple") none (Data.seq #[]) #[]) ::
  (nat_lit 71, Obj.mk (Value.type "code") none (Data.fields #[Value.str (Str.ofString "is_regular") 288, Value.str (Str.ofString "is_regular") 289, Value.str (Str.ofString "/claim/cut.py") 290, Value.int 60 0, Value.int 1 0, Value.int 0 0, Value.int 0 0, Value.int 3 0, Value.ref 66, Value.bool true, Value.int 181 0, Value.ref 67, Value.none, Value.ref 68, Value.ref 69, Value.ref 70, Value.int 292 0, Value.int 60 0, Value.str (Str.ofString "/claim/cut.py") 293]) #[]) ::
  (nat_lit 72, Obj.mk (Value.type "function") none (Data.func (FuncData.mk (Str.ofString "is_regular") (Str.ofString "is_regular") af20 (FuncBody.stmts bf20) sf20 3 [] Value.none Value.none Value.none (Value.str (Str.ofString "paperhold.cursor") 253) none (Value.ref 71) Value.none 0)) #[]) ::
  (nat_lit 73, Obj.mk (Value.type "tuple") none (Data.seq #[]) #[]) ::
  (nat_lit 75, Obj.mk (Value.type "tuple") none (Data.seq #[Value.str (Str.ofString "code") 298]) #[]) ::
  (nat_lit 76, Obj.mk (Value.type "tuple") none (Data.seq #[]) #[]) ::
  (nat_lit 78, Obj.mk (Value.type "code") none (Data.fields #[Value.str (Str.ofString "is_figure") 295, Value.str (Str.ofString "is_figure") 296, Value.str (Str.ofString "/claim/cut.py") 297, Value.int 62 0, Value.int 1 0, Value.int 0 0, Value.int 0 0, Value.int 3 0, Value.ref 73, Value.bool true, Value.int 181 0, Value.ref 74, Value.none, Value.ref 75, Value.ref 76, Value.ref 77, Value.int 299 0, Value.int 62 0, Value.str (Str.ofString "/claim/cut.py") 300]) #[]) ::
  (nat_lit 79, Obj.mk (Value.type "function") none (Data.func (FuncData.mk (Str.ofString "is_figure") (Str.ofString "is_figure") af21 (FuncBody.stmts bf21) sf21 3 [] Value.none Value.none Value.none (Value.str (Str.ofString "paperhold.cursor") 253) none (Value.ref 78) Value.none 0)) #[]) ::
  (nat_lit 87, Obj.mk (Value.type "tuple") none (Data.seq #[Value.int 0 314, Value.int (-1) 316]) #[]) ::
  (nat_lit 88, Obj.mk (Value.type "tuple") none (Data.seq #[]) #[]) ::
  (nat_lit 90, Obj.mk (Value.type "tuple") none (Data.seq #[Value.str (Str.ofString "self") 320, Value.str (Str.ofString "data") 321, Value.str (Str.ofString "at") 322, Value.str (Str.ofString "end") 323]) #[]) ::
  (nat_lit 91, Obj.mk (Value.type "tuple") none (Data.seq #[]) #[]) ::
  (nat_lit 93, Obj.mk (Value.type "code") none (Data.fields #[Value.str (Str.ofString "__init__") 317, Value.str (Str.ofString "Cursor.__init__") 318, Value.str (Str.ofString "/claim/cut.py") 319, Value.int 66 0, Value.int 4 0, Value.int 0 0, Value.int 0 0, Value.int 3 0, Value.ref 88, Value.bool true, Value.int 181 0, Value.ref 89, Value.none, Value.ref 90, Value.ref 91, Value.ref 92, Value.int 324 0, Value.int 66 0, Value.str (Str.ofString "/claim/cut.py") 325]) #[]) ::
  (nat_lit 94, Obj.mk (Value.type "function") none (Data.func (FuncData.mk (Str.ofString "__init__") (Str.ofString "Cursor.__init__") af22m0 (FuncBody.stmts bf22m0) sf22m0 3 [] (Value.ref 87) Value.none Value.none (Value.str (Str.ofString "paperhold.cursor") 253) none (Value.ref 93) Value.none 0)) #[]) ::
  (nat_lit 95, Obj.mk (Value.type "tuple") none (Data.seq #[]) #[]) ::
  (nat_lit 97, Obj.mk (Value.type "tuple") none (Data.seq #[Value.str (Str.ofString "self") 330]) #[]) ::
  (nat_lit 98, Obj.mk (Value.type "tuple") none (Data.seq #[]) #[]) ::
  (nat_lit 100, Obj.mk (Value.type "code") none (Data.fields #[Value.str (Str.ofString "is_done") 327, Value.str (Str.ofString "Cursor.is_done") 328, Value.str (Str.ofString "/claim/cut.py") 329, Value.int 71 0, Value.int 1 0, Value.int 0 0, Value.int 0 0, Value.int 3 0, Value.ref 95, Value.bool true, Value.int 181 0, Value.ref 96, Value.none, Value.ref 97, Value.ref 98, Value.ref 99, Value.int 331 0, Value.int 71 0, Value.str (Str.ofString "/claim/cut.py") 332]) #[]) ::
  (nat_lit 101, Obj.mk (Value.type "function") none (Data.func (FuncData.mk (Str.ofString "is_done") (Str.ofString "Cursor.is_done") af22m1 (FuncBody.stmts bf22m1) sf22m1 3 [] Value.none Value.none Value.none (Value.str (Str.ofString "paperhold.cursor") 253) none (Value.ref 100) Value.none 0)) #[]) ::
  (nat_lit 102, Obj.mk (Value.type "tuple") none (Data.seq #[Value.int 0 334]) #[]) ::
  (nat_lit 103, Obj.mk (Value.type "tuple") none (Data.seq #[]) #[]) ::
  (nat_lit 105, Obj.mk (Value.type "tuple") none (Data.seq #[Value.str (Str.ofString "self") 338, Value.str (Str.ofString "ahead") 339, Value.str (Str.ofString "spot") 340]) #[]) ::
  (nat_lit 106, Obj.mk (Value.type "tuple") none (Data.seq #[]) #[]) ::
  (nat_lit 108, Obj.mk (Value.type "code") none (Data.fields #[Value.str (Str.ofString "peek") 335, Value.str (Str.ofString "Cursor.peek") 336, Value.str (Str.ofString "/claim/cut.py") 337, Value.int 74 0, Value.int 2 0, Value.int 0 0, Value.int 0 0, Value.int 3 0, Value.ref 103, Value.bool true, Value.int 181 0, Value.ref 104, Value.none, Value.ref 105, Value.ref 106, Value.ref 107, Value.int 341 0, Value.int 74 0, Value.str (Str.ofString "/claim/cut.py") 342]) #[]) ::
  (nat_lit 109, Obj.mk (Value.type "function") none (Data.func (FuncData.mk (Str.ofString "peek") (Str.ofString "Cursor.peek") af22m2 (FuncBody.stmts bf22m2) sf22m2 3 [] (Value.ref 102) Value.none Value.none (Value.str (Str.ofString "paperhold.cursor") 253) none (Value.ref 108) Value.none 0)) #[]) ::
  (nat_lit 110, Obj.mk (Value.type "tuple") none (Data.seq #[]) #[]) ::
  (nat_lit 112, Obj.mk (Value.type "tuple") none (Data.seq #[Value.str (Str.ofString "self") 347, Value.str (Str.ofString "code") 348]) #[]) ::
  (nat_lit 113, Obj.mk (Value.type "tuple") none (Data.seq #[]) #[]) ::
  (nat_lit 115, Obj.mk (Value.type "code") none (Data.fields #[Value.str (Str.ofString "take") 344, Value.str (Str.ofString "Cursor.take") 345, Value.str (Str.ofString "/claim/cut.py") 346, Value.int 78 0, Value.int 1 0, Value.int 0 0, Value.int 0 0, Value.int 3 0, Value.ref 110, Value.bool true, Value.int 181 0, Value.ref 111, Value.none, Value.ref 112, Value.ref 113, Value.ref 114, Value.int 349 0, Value.int 78 0, Value.str (Str.ofString "/claim/cut.py") 350]) #[]) ::
  (nat_lit 116, Obj.mk (Value.type "function") none (Data.func (FuncData.mk (Str.ofString "take") (Str.ofString "Cursor.take") af22m3 (FuncBody.stmts bf22m3) sf22m3 3 [] Value.none Value.none Value.none (Value.str (Str.ofString "paperhold.cursor") 253) none (Value.ref 115) Value.none 0)) #[]) ::
  (nat_lit 117, Obj.mk (Value.type "tuple") none (Data.seq #[]) #[]) ::
  (nat_lit 119, Obj.mk (Value.type "tuple") none (Data.seq #[Value.str (Str.ofString "self") 355, Value.str (Str.ofString "word") 356]) #[]) ::
  (nat_lit 120, Obj.mk (Value.type "tuple") none (Data.seq #[]) #[]) ::
  (nat_lit 122, Obj.mk (Value.type "code") none (Data.fields #[Value.str (Str.ofString "starts") 352, Value.str (Str.ofString "Cursor.starts") 353, Value.str (Str.ofString "/claim/cut.py") 354, Value.int 85 0, Value.int 2 0, Value.int 0 0, Value.int 0 0, Value.int 3 0, Value.ref 117, Value.bool true, Value.int 181 0, Value.ref 118, Value.none, Value.ref 119, Value.ref 120, Value.ref 121, Value.int 357 0, Value.int 85 0, Value.str (Str.ofString "/claim/cut.py") 358]) #[]) ::
  (nat_lit 123, Obj.mk (Value.type "function") none (Data.func (FuncData.mk (Str.ofString "starts") (Str.ofString "Cursor.starts") af22m4 (FuncBody.stmts bf22m4) sf22m4 3 [] Value.none Value.none Value.none (Value.str (Str.ofString "paperhold.cursor") 253) none (Value.ref 122) Value.none 0)) #[]) ::
  (nat_lit 124, Obj.mk (Value.type "tuple") none (Data.seq #[]) #[]) ::
  (nat_lit 126, Obj.mk (Value.type "tuple") none (Data.seq #[Value.str (Str.ofString "self") 363, Value.str (Str.ofString "word") 364]) #[]) ::
  (nat_lit 127, Obj.mk (Value.type "tuple") none (Data.seq #[]) #[]) ::
  (nat_lit 129, Obj.mk (Value.type "code") none (Data.fields #[Value.str (Str.ofString "skip") 360, Value.str (Str.ofString "Cursor.skip") 361, Value.str (Str.ofString "/claim/cut.py") 362, Value.int 88 0, Value.int 2 0, Value.int 0 0, Value.int 0 0, Value.int 3 0, Value.ref 124, Value.bool true, Value.int 181 0, Value.ref 125, Value.none, Value.ref 126, Value.ref 127, Value.ref 128, Value.int 365 0, Value.int 88 0, Value.str (Str.ofString "/claim/cut.py") 366]) #[]) ::
  (nat_lit 130, Obj.mk (Value.type "function") none (Data.func (FuncData.mk (Str.ofString "skip") (Str.ofString "Cursor.skip") af22m5 (FuncBody.stmts bf22m5) sf22m5 3 [] Value.none Value.none Value.none (Value.str (Str.ofString "paperhold.cursor") 253) none (Value.ref 129) Value.none 0)) #[]) ::
  (nat_lit 131, Obj.mk (Value.type "tuple") none (Data.seq #[]) #[]) ::
  (nat_lit 133, Obj.mk (Value.type "tuple") none (Data.seq #[Value.str (Str.ofString "self") 371, Value.str (Str.ofString "code") 372]) #[]) ::
  (nat_lit 134, Obj.mk (Value.type "tuple") none (Data.seq #[]) #[]) ::
  (nat_lit 136, Obj.mk (Value.type "code") none (Data.fields #[Value.str (Str.ofString "skip_white") 368, Value.str (Str.ofString "Cursor.skip_white") 369, Value.str (Str.ofString "/claim/cut.py") 370, Value.int 94 0, Value.int 1 0, Value.int 0 0, Value.int 0 0, Value.int 3 0, Value.ref 131, Value.bool true, Value.int 181 0, Value.ref 132, Value.none, Value.ref 133, Value.ref 134, Value.ref 135, Value.int 373 0, Value.int 94 0, Value.str (Str.ofString "/claim/cut.py") 374]) #[]) ::
  (nat_lit 137, Obj.mk (Value.type "function") none (Data.func (FuncData.mk (Str.ofString "skip_white") (Str.ofString "Cursor.skip_white") af22m6 (FuncBody.stmts bf22m6) sf22m6 3 [] Value.none Value.none Value.none (Value.str (Str.ofString "paperhold.cursor") 253) none (Value.ref 136) Value.none 0)) #[]) ::
  (nat_lit 138, Obj.mk (Value.type "tuple") none (Data.seq #[]) #[]) ::
  (nat_lit 140, Obj.mk (Value.type "tuple") none (Data.seq #[Value.str (Str.ofString "self") 379, Value.str (Str.ofString "first") 380]) #[]) ::
  (nat_lit 141, Obj.mk (Value.type "tuple") none (Data.seq #[]) #[]) ::
  (nat_lit 143, Obj.mk (Value.type "code") none (Data.fields #[Value.str (Str.ofString "take_regular") 376, Value.str (Str.ofString "Cursor.take_regular") 377, Value.str (Str.ofString "/claim/cut.py") 378, Value.int 105 0, Value.int 1 0, Value.int 0 0, Value.int 0 0, Value.int 3 0, Value.ref 138, Value.bool true, Value.int 181 0, Value.ref 139, Value.none, Value.ref 140, Value.ref 141, Value.ref 142, Value.int 381 0, Value.int 105 0, Value.str (Str.ofString "/claim/cut.py") 382]) #[]) ::
  (nat_lit 144, Obj.mk (Value.type "function") none (Data.func (FuncData.mk (Str.ofString "take_regular") (Str.ofString "Cursor.take_regular") af22m7 (FuncBody.stmts bf22m7) sf22m7 3 [] Value.none Value.none Value.none (Value.str (Str.ofString "paperhold.cursor") 253) none (Value.ref 143) Value.none 0)) #[]) ::
  (nat_lit 145, Obj.mk (Value.type "tuple") none (Data.seq #[]) #[]) ::
  (nat_lit 147, Obj.mk (Value.type "tuple") none (Data.seq #[Value.str (Str.ofString "self") 387]) #[]) ::
  (nat_lit 148, Obj.mk (Value.type "tuple") none (Data.seq #[]) #[]) ::
  (nat_lit 150, Obj.mk (Value.type "code") none (Data.fields #[Value.str (Str.ofString "skip_line_end") 384, Value.str (Str.ofString "Cursor.skip_line_end") 385, Value.str (Str.ofString "/claim/cut.py") 386, Value.int 111 0, Value.int 1 0, Value.int 0 0, Value.int 0 0, Value.int 3 0, Value.ref 145, Value.bool true, Value.int 181 0, Value.ref 146, Value.none, Value.ref 147, Value.ref 148, Value.ref 149, Value.int 388 0, Value.int 111 0, Value.str (Str.ofString "/claim/cut.py") 389]) #[]) ::
  (nat_lit 151, Obj.mk (Value.type "function") none (Data.func (FuncData.mk (Str.ofString "skip_line_end") (Str.ofString "Cursor.skip_line_end") af22m8 (FuncBody.stmts bf22m8) sf22m8 3 [] Value.none Value.none Value.none (Value.str (Str.ofString "paperhold.cursor") 253) none (Value.ref 150) Value.none 0)) #[]) ::
  (nat_lit 152, Obj.mk (Value.type "tuple") none (Data.seq #[]) #[]) ::
  (nat_lit 154, Obj.mk (Value.type "tuple") none (Data.seq #[Value.str (Str.ofString "self") 394]) #[]) ::
  (nat_lit 155, Obj.mk (Value.type "tuple") none (Data.seq #[]) #[]) ::
  (nat_lit 157, Obj.mk (Value.type "code") none (Data.fields #[Value.str (Str.ofString "take_line") 391, Value.str (Str.ofString "Cursor.take_line") 392, Value.str (Str.ofString "/claim/cut.py") 393, Value.int 122 0, Value.int 1 0, Value.int 0 0, Value.int 0 0, Value.int 3 0, Value.ref 152, Value.bool true, Value.int 181 0, Value.ref 153, Value.none, Value.ref 154, Value.ref 155, Value.ref 156, Value.int 395 0, Value.int 122 0, Value.str (Str.ofString "/claim/cut.py") 396]) #[]) ::
  (nat_lit 158, Obj.mk (Value.type "function") none (Data.func (FuncData.mk (Str.ofString "take_line") (Str.ofString "Cursor.take_line") af22m9 (FuncBody.stmts bf22m9) sf22m9 3 [] Value.none Value.none Value.none (Value.str (Str.ofString "paperhold.cursor") 253) none (Value.ref 157) Value.none 0)) #[]) ::
  (nat_lit 159, Obj.mk (Value.type "tuple") none (Data.seq #[]) #[]) ::
  (nat_lit 161, Obj.mk (Value.type "tuple") none (Data.seq #[Value.str (Str.ofString "self") 401, Value.str (Str.ofString "first") 402, Value.str (Str.ofString "number") 403]) #[]) ::
  (nat_lit 162, Obj.mk (Value.type "tuple") none (Data.seq #[]) #[]) ::
  (nat_lit 164, Obj.mk (Value.type "code") none (Data.fields #[Value.str (Str.ofString "number") 398, Value.str (Str.ofString "Cursor.number") 399, Value.str (Str.ofString "/claim/cut.py") 400, Value.int 125 0, Value.int 1 0, Value.int 0 0, Value.int 0 0, Value.int 3 0, Value.ref 159, Value.bool true, Value.int 181 0, Value.ref 160, Value.none, Value.ref 161, Value.ref 162, Value.ref 163, Value.int 404 0, Value.int 125 0, Value.str (Str.ofString "/claim/cut.py") 405]) #[]) ::
  (nat_lit 165, Obj.mk (Value.type "function") none (Data.func (FuncData.mk (Str.ofString "number") (Str.ofString "Cursor.number") af22m10 (FuncBody.stmts bf22m10) sf22m10 3 [] Value.none Value.none Value.none (Value.str (Str.ofString "paperhold.cursor") 253) none (Value.ref 164) Value.none 0)) #[]) ::
  (nat_lit 166, Obj.mk (Value.type "tuple") none (Data.seq #[]) #[]) ::
  (nat_lit 168, Obj.mk (Value.type "tuple") none (Data.seq #[Value.str (Str.ofString "self") 410, Value.str (Str.ofString "word") 411, Value.str (Str.ofString "first") 412]) #[]) ::
  (nat_lit 169, Obj.mk (Value.type "tuple") none (Data.seq #[]) #[]) ::
  (nat_lit 171, Obj.mk (Value.type "code") none (Data.fields #[Value.str (Str.ofString "find") 407, Value.str (Str.ofString "Cursor.find") 408, Value.str (Str.ofString "/claim/cut.py") 409, Value.int 135 0, Value.int 3 0, Value.int 0 0, Value.int 0 0, Value.int 3 0, Value.ref 166, Value.bool true, Value.int 181 0, Value.ref 167, Value.none, Value.ref 168, Value.ref 169, Value.ref 170, Value.int 413 0, Value.int 135 0, Value.str (Str.ofString "/claim/cut.py") 414]) #[]) ::
  (nat_lit 172, Obj.mk (Value.type "function") none (Data.func (FuncData.mk (Str.ofString "find") (Str.ofString "Cursor.find") af22m11 (FuncBody.stmts bf22m11) sf22m11 3 [] Value.none Value.none Value.none (Value.str (Str.ofString "paperhold.cursor") 253) none (Value.ref 171) Value.none 0)) #[]) ::
  (nat_lit 173, Obj.mk (Value.type "tuple") none (Data.seq #[]) #[]) ::
  (nat_lit 175, Obj.mk (Value.type "tuple") none (Data.seq #[Value.str (Str.ofString "self") 419, Value.str (Str.ofString "word") 420]) #[]) ::
  (nat_lit 176, Obj.mk (Value.type "tuple") none (Data.seq #[]) #[]) ::
  (nat_lit 178, Obj.mk (Value.type "code") none (Data.fields #[Value.str (Str.ofString "find_last") 416, Value.str (Str.ofString "Cursor.find_last") 417, Value.str (Str.ofString "/claim/cut.py") 418, Value.int 138 0, Value.int 2 0, Value.int 0 0, Value.int 0 0, Value.int 3 0, Value.ref 173, Value.bool true, Value.int 181 0, Value.ref 174, Value.none, Value.ref 175, Value.ref 176, Value.ref 177, Value.int 421 0, Value.int 138 0, Value.str (Str.ofString "/claim/cut.py") 422]) #[]) ::
  (nat_lit 179, Obj.mk (Value.type "function") none (Data.func (FuncData.mk (Str.ofString "find_last") (Str.ofString "Cursor.find_last") af22m12 (FuncBody.stmts bf22m12) sf22m12 3 [] Value.none Value.none Value.none (Value.str (Str.ofString "paperhold.cursor") 253) none (Value.ref 178) Value.none 0)) #[]) ::
  (nat_lit 180, Obj.mk (Value.type "tuple") none (Data.seq #[Value.str (Str.ofString "at") 424, Value.str (Str.ofString "data") 425, Value.str (Str.ofString "end") 426]) #[]) ::
  (nat_lit 181, Obj.mk (Value.type "dict") none (Data.dict #[DictEntry.mk (PyData.keyHash P (Str.ofString "__module__")) (Value.str (Str.ofString "__module__") 309) (Value.str (Str.ofString "paperhold.cursor") 253), DictEntry.mk (PyData.keyHash P (Str.ofString "__firstlineno__")) (Value.str (Str.ofString "__firstlineno__") 313) (Value.int 64 312), DictEntry.mk (PyData.keyHash P (Str.ofString "__init__")) (Value.str (Str.ofString "__init__") 326) (Value.ref 94), DictEntry.mk (PyData.keyHash P (Str.ofString "is_done")) (Value.str (Str.ofString "is_done") 333) (Value.ref 101), DictEntry.mk (PyData.keyHash P (Str.ofString "peek")) (Value.str (Str.ofString "peek") 343) (Value.ref 109), DictEntry.mk (PyData.keyHash P (Str.ofString "take")) (Value.str (Str.ofString "take") 351) (Value.ref 116), DictEntry.mk (PyData.keyHash P (Str.ofString "starts")) (Value.str (Str.ofString "starts") 359) (Value.ref 123), DictEntry.mk (PyData.keyHash P (Str.ofString "skip")) (Value.str (Str.ofString "skip") 367) (Value.ref 130), DictEntry.mk (PyData.keyHash P (Str.ofString "skip_white")) (Value.str (Str.ofString "skip_white") 375) (Value.ref 137), DictEntry.mk (PyData.keyHash P (Str.ofString "take_regular")) (Value.str (Str.ofString "take_regular") 383) (Value.ref 144), DictEntry.mk (PyData.keyHash P (Str.ofString "skip_line_end")) (Value.str (Str.ofString "skip_line_end") 390) (Value.ref 151), DictEntry.mk (PyData.keyHash P (Str.ofString "take_line")) (Value.str (Str.ofString "take_line") 397) (Value.ref 158), DictEntry.mk (PyData.keyHash P (Str.ofString "number")) (Value.str (Str.ofString "number") 406) (Value.ref 165), DictEntry.mk (PyData.keyHash P (Str.ofString "find")) (Value.str (Str.ofString "find") 415) (Value.ref 172), DictEntry.mk (PyData.keyHash P (Str.ofString "find_last")) (Value.str (Str.ofString "find_last") 423) (Value.ref 179), DictEntry.mk (PyData.keyHash P (Str.ofString "__static_attributes__")) (Value.str (Str.ofString "__static_attributes__") 427) (Value.ref 180), DictEntry.mk (PyData.keyHash P (Str.ofString "__dict__")) (Value.str (Str.ofString "__dict__") 429) (Value.ref 183), DictEntry.mk (PyData.keyHash P (Str.ofString "__weakref__")) (Value.str (Str.ofString "__weakref__") 431) (Value.ref 184), DictEntry.mk (PyData.keyHash P (Str.ofString "__doc__")) (Value.str (Str.ofString "__doc__") 432) Value.none] 4) #[]) ::
  (nat_lit 182, Obj.mk (Value.type "type") none (Data.cls (ClassData.mk (Str.ofString "Cursor") [Value.type "object"] [Value.ref 182, Value.type "object"] 181 (Str.ofString "Cursor") true [] [] false none false)) #[none, none, some (Value.str (Str.ofString "Cursor") 302), some (Value.str (Str.ofString "Cursor") 310), some (Value.builtin "object.__new__"), some (Value.bool true)]) ::
  (nat_lit 183, Obj.mk (Value.type "getset_descriptor") none (Data.fields #[Value.str (Str.ofString "__dict__") 428, Value.ref 182, Value.builtin "function.__dict__", Value.builtin "function.__dict__#set"]) #[]) ::
  (nat_lit 184, Obj.mk (Value.type "getset_descriptor") none (Data.fields #[Value.str (Str.ofString "__weakref__") 430, Value.ref 182, Value.builtin "ExceptionGroup.__weakref__", Value.none]) #[]) ::
  (nat_lit 187, Obj.mk (Value.type "tuple") none (Data.seq #[Value.type "Exception"]) #[]) ::
  (nat_lit 194, Obj.mk (Value.type "tuple") none (Data.seq #[Value.int (-1) 450]) #[]) ::
  (nat_lit 195, Obj.mk (Value.type "tuple") none (Data.seq #[]) #[]) ::
  (nat_lit 197, Obj.mk (Value.type "tuple") none (Data.seq #[Value.str (Str.ofString "self") 454, Value.str (Str.ofString "what") 455, Value.str (Str.ofString "at") 456]) #[]) ::
  (nat_lit 198, Obj.mk (Value.type "tuple") none (Data.seq #[]) #[]) ::
  (nat_lit 200, Obj.mk (Value.type "code") none (Data.fields #[Value.str (Str.ofString "__init__") 451, Value.str (Str.ofString "PaperError.__init__") 452, Value.str (Str.ofString "/claim/cut.py") 453, Value.int 143 0, Value.int 3 0, Value.int 0 0, Value.int 0 0, Value.int 3 0, Value.ref 195, Value.bool true, Value.int 181 0, Value.ref 196, Value.none, Value.ref 197, Value.ref 198, Value.ref 199, Value.int 457 0, Value.int 143 0, Value.str (Str.ofString "/claim/cut.py") 458]) #[]) ::
  (nat_lit 201, Obj.mk (Value.type "function") none (Data.func (FuncData.mk (Str.ofString "__init__") (Str.ofString "PaperError.__init__") af24m0 (FuncBody.stmts bf24m0) sf24m0 3 [] (Value.ref 194) Value.none Value.none (Value.str (Str.ofString "paperhold.errors") 435) none (Value.ref 200) Value.none 0)) #[]) ::
  (nat_lit 202, Obj.mk (Value.type "tuple") none (Data.seq #[]) #[]) ::
  (nat_lit 204, Obj.mk (Value.type "tuple") none (Data.seq #[Value.str (Str.ofString "self") 463]) #[]) ::
  (nat_lit 205, Obj.mk (Value.type "tuple") none (Data.seq #[]) #[]) ::
  (nat_lit 207, Obj.mk (Value.type "code") none (Data.fields #[Value.str (Str.ofString "told") 460, Value.str (Str.ofString "PaperError.told") 461, Value.str (Str.ofString "/claim/cut.py") 462, Value.int 148 0, Value.int 1 0, Value.int 0 0, Value.int 0 0, Value.int 3 0, Value.ref 202, Value.bool true, Value.int 181 0, Value.ref 203, Value.none, Value.ref 204, Value.ref 205, Value.ref 206, Value.int 464 0, Value.int 148 0, Value.str (Str.ofString "/claim/cut.py") 465]) #[]) ::
  (nat_lit 208, Obj.mk (Value.type "function") none (Data.func (FuncData.mk (Str.ofString "told") (Str.ofString "PaperError.told") af24m1 (FuncBody.stmts bf24m1) sf24m1 3 [] Value.none Value.none Value.none (Value.str (Str.ofString "paperhold.errors") 435) none (Value.ref 207) Value.none 0)) #[]) ::
  (nat_lit 209, Obj.mk (Value.type "tuple") none (Data.seq #[Value.str (Str.ofString "at") 467, Value.str (Str.ofString "what") 468]) #[]) ::
  (nat_lit 210, Obj.mk (Value.type "dict") none (Data.dict #[DictEntry.mk (PyData.keyHash P (Str.ofString "__module__")) (Value.str (Str.ofString "__module__") 444) (Value.str (Str.ofString "paperhold.errors") 435), DictEntry.mk (PyData.keyHash P (Str.ofString "__firstlineno__")) (Value.str (Str.ofString "__firstlineno__") 448) (Value.int 141 447), DictEntry.mk (PyData.keyHash P (Str.ofString "__init__")) (Value.str (Str.ofString "__init__") 459) (Value.ref 201), DictEntry.mk (PyData.keyHash P (Str.ofString "told")) (Value.str (Str.ofString "told") 466) (Value.ref 208), DictEntry.mk (PyData.keyHash P (Str.ofString "__static_attributes__")) (Value.str (Str.ofString "__static_attributes__") 469) (Value.ref 209), DictEntry.mk (PyData.keyHash P (Str.ofString "__weakref__")) (Value.str (Str.ofString "__weakref__") 471) (Value.ref 212), DictEntry.mk (PyData.keyHash P (Str.ofString "__doc__")) (Value.str (Str.ofString "__doc__") 472) Value.none] 3) #[]) ::
  (nat_lit 211, Obj.mk (Value.type "type") none (Data.cls (ClassData.mk (Str.ofString "PaperError") [Value.type "Exception"] [Value.ref 211, Value.type "Exception", Value.type "BaseException", Value.type "object"] 210 (Str.ofString "PaperError") true [] [Value.ref 224] false none false)) #[some (Value.ref 187), none, some (Value.str (Str.ofString "PaperError") 437), some (Value.str (Str.ofString "PaperError") 445), some (Value.builtin "Exception.__new__"), some (Value.bool true)]) ::
  (nat_lit 212, Obj.mk (Value.type "getset_descriptor") none (Data.fields #[Value.str (Str.ofString "__weakref__") 470, Value.ref 211, Value.builtin "ExceptionGroup.__weakref__", Value.none]) #[]) ::
  (nat_lit 215, Obj.mk (Value.type "tuple") none (Data.seq #[Value.ref 211]) #[]) ::
  (nat_lit 222, Obj.mk (Value.type "tuple") none (Data.seq #[]) #[]) ::
  (nat_lit 223, Obj.mk (Value.type "dict") none (Data.dict #[DictEntry.mk (PyData.keyHash P (Str.ofString "__module__")) (Value.str (Str.ofString "__module__") 484) (Value.str (Str.ofString "paperhold.errors") 435), DictEntry.mk (PyData.keyHash P (Str.ofString "__firstlineno__")) (Value.str (Str.ofString "__firstlineno__") 488) (Value.int 150 487), DictEntry.mk (PyData.keyHash P (Str.ofString "__static_attributes__")) (Value.str (Str.ofString "__static_attributes__") 489) (Value.ref 222), DictEntry.mk (PyData.keyHash P (Str.ofString "__doc__")) (Value.str (Str.ofString "__doc__") 490) Value.none] 2) #[]) ::
  (nat_lit 224, Obj.mk (Value.type "type") none (Data.cls (ClassData.mk (Str.ofString "SyntaxFault") [Value.ref 211] [Value.ref 224, Value.ref 211, Value.type "Exception", Value.type "BaseException", Value.type "object"] 223 (Str.ofString "SyntaxFault") true [] [] false none false)) #[some (Value.ref 215), none, some (Value.str (Str.ofString "SyntaxFault") 477), some (Value.str (Str.ofString "SyntaxFault") 485), some (Value.builtin "Exception.__new__"), some (Value.bool true)]) ::
  (nat_lit 234, Obj.mk (Value.type "tuple") none (Data.seq #[]) #[]) ::
  (nat_lit 236, Obj.mk (Value.type "tuple") none (Data.seq #[Value.str (Str.ofString "self") 520, Value.str (Str.ofString "top") 521, Value.str (Str.ofString "places") 522]) #[]) ::
  (nat_lit 237, Obj.mk (Value.type "tuple") none (Data.seq #[]) #[]) ::
  (nat_lit 239, Obj.mk (Value.type "code") none (Data.fields #[Value.str (Str.ofString "__init__") 517, Value.str (Str.ofString "Decimal.__init__") 518, Value.str (Str.ofString "/claim/cut.py") 519, Value.int 160 0, Value.int 3 0, Value.int 0 0, Value.int 0 0, Value.int 3 0, Value.ref 234, Value.bool true, Value.int 181 0, Value.ref 235, Value.none, Value.ref 236, Value.ref 237, Value.ref 238, Value.int 523 0, Value.int 160 0, Value.str (Str.ofString "/claim/cut.py") 524]) #[]) ::
  (nat_lit 240, Obj.mk (Value.type "function") none (Data.func (FuncData.mk (Str.ofString "__init__") (Str.ofString "Decimal.__init__") af32m0 (FuncBody.stmts bf32m0) sf32m0 3 [] Value.none Value.none Value.none (Value.str (Str.ofString "paperhold.decimals") 493) none (Value.ref 239) Value.none 0)) #[]) ::
  (nat_lit 241, Obj.mk (Value.type "tuple") none (Data.seq #[]) #[]) ::
  (nat_lit 243, Obj.mk (Value.type "tuple") none (Data.seq #[Value.str (Str.ofString "self") 529, Value.str (Str.ofString "other") 530]) #[]) ::
  (nat_lit 244, Obj.mk (Value.type "tuple") none (Data.seq #[]) #[]) ::
  (nat_lit 246, Obj.mk (Value.type "code") none (Data.fields #[Value.str (Str.ofString "plus") 526, Value.str (Str.ofString "Decimal.plus") 527, Value.str (Str.ofString "/claim/cut.py") 528, Value.int 167 0, Value.int 2 0, Value.int 0 0, Value.int 0 0, Value.int 3 0, Value.ref 241, Value.bool true, Value.int 181 0, Value.ref 242, Value.none, Value.ref 243, Value.ref 244, Value.ref 245, Value.int 531 0, Value.int 167 0, Value.str (Str.ofString "/claim/cut.py") 532]) #[]) ::
  (nat_lit 247, Obj.mk (Value.type "function") none (Data.func (FuncData.mk (Str.ofString "plus") (Str.ofString "Decimal.plus") af32m1 (FuncBody.stmts bf32m1) sf32m1 3 [] Value.none Value.none Value.none (Value.str (Str.ofString "paperhold.decimals") 493) none (Value.ref 246) Value.none 0)) #[]) ::
  (nat_lit 248, Obj.mk (Value.type "tuple") none (Data.seq #[]) #[]) ::
  (nat_lit 250, Obj.mk (Value.type "tuple") none (Data.seq #[Value.str (Str.ofString "self") 537, Value.str (Str.ofString "other") 538]) #[]) ::
  (nat_lit 251, Obj.mk (Value.type "tuple") none (Data.seq #[]) #[]) ::
  (nat_lit 253, Obj.mk (Value.type "code") none (Data.fields #[Value.str (Str.ofString "minus") 534, Value.str (Str.ofString "Decimal.minus") 535, Value.str (Str.ofString "/claim/cut.py") 536, Value.int 170 0, Value.int 2 0, Value.int 0 0, Value.int 0 0, Value.int 3 0, Value.ref 248, Value.bool true, Value.int 181 0, Value.ref 249, Value.none, Value.ref 250, Value.ref 251, Value.ref 252, Value.int 539 0, Value.int 170 0, Value.str (Str.ofString "/claim/cut.py") 540]) #[]) ::
  (nat_lit 254, Obj.mk (Value.type "function") none (Data.func (FuncData.mk (Str.ofString "minus") (Str.ofString "Decimal.minus") af32m2 (FuncBody.stmts bf32m2) sf32m2 3 [] Value.none Value.none Value.none (Value.str (Str.ofString "paperhold.decimals") 493) none (Value.ref 253) Value.none 0)) #[]) ::
  (nat_lit 255, Obj.mk (Value.type "tuple") none (Data.seq #[]) #[]) ::
  (nat_lit 257, Obj.mk (Value.type "tuple") none (Data.seq #[Value.str (Str.ofString "self") 545, Value.str (Str.ofString "other") 546]) #[]) ::
  (nat_lit 258, Obj.mk (Value.type "tuple") none (Data.seq #[]) #[]) ::
  (nat_lit 260, Obj.mk (Value.type "code") none (Data.fields #[Value.str (Str.ofString "times") 542, Value.str (Str.ofString "Decimal.times") 543, Value.str (Str.ofString "/claim/cut.py") 544, Value.int 173 0, Value.int 2 0, Value.int 0 0, Value.int 0 0, Value.int 3 0, Value.ref 255, Value.bool true, Value.int 181 0, Value.ref 256, Value.none, Value.ref 257, Value.ref 258, Value.ref 259, Value.int 547 0, Value.int 173 0, Value.str (Str.ofString "/claim/cut.py") 548]) #[]) ::
  (nat_lit 261, Obj.mk (Value.type "function") none (Data.func (FuncData.mk (Str.ofString "times") (Str.ofString "Decimal.times") af32m3 (FuncBody.stmts bf32m3) sf32m3 3 [] Value.none Value.none Value.none (Value.str (Str.ofString "paperhold.decimals") 493) none (Value.ref 260) Value.none 0)) #[]) ::
  (nat_lit 262, Obj.mk (Value.type "tuple") none (Data.seq #[]) #[]) ::
  (nat_lit 264, Obj.mk (Value.type "tuple") none (Data.seq #[Value.str (Str.ofString "self") 553]) #[]) ::
  (nat_lit 265, Obj.mk (Value.type "tuple") none (Data.seq #[]) #[]) ::
  (nat_lit 267, Obj.mk (Value.type "code") none (Data.fields #[Value.str (Str.ofString "negated") 550, Value.str (Str.ofString "Decimal.negated") 551, Value.str (Str.ofString "/claim/cut.py") 552, Value.int 176 0, Value.int 1 0, Value.int 0 0, Value.int 0 0, Value.int 3 0, Value.ref 262, Value.bool true, Value.int 181 0, Value.ref 263, Value.none, Value.ref 264, Value.ref 265, Value.ref 266, Value.int 554 0, Value.int 176 0, Value.str (Str.ofString "/claim/cut.py") 555]) #[]) ::
  (nat_lit 268, Obj.mk (Value.type "function") none (Data.func (FuncData.mk (Str.ofString "negated") (Str.ofString "Decimal.negated") af32m4 (FuncBody.stmts bf32m4) sf32m4 3 [] Value.none Value.none Value.none (Value.str (Str.ofString "paperhold.decimals") 493) none (Value.ref 267) Value.none 0)) #[]) ::
  (nat_lit 269, Obj.mk (Value.type "tuple") none (Data.seq #[]) #[]) ::
  (nat_lit 271, Obj.mk (Value.type "tuple") none (Data.seq #[Value.str (Str.ofString "self") 560, Value.str (Str.ofString "other") 561]) #[]) ::
  (nat_lit 272, Obj.mk (Value.type "tuple") none (Data.seq #[]) #[]) ::
  (nat_lit 274, Obj.mk (Value.type "code") none (Data.fields #[Value.str (Str.ofString "compared") 557, Value.str (Str.ofString "Decimal.compared") 558, Value.str (Str.ofString "/claim/cut.py") 559, Value.int 179 0, Value.int 2 0, Value.int 0 0, Value.int 0 0, Value.int 3 0, Value.ref 269, Value.bool true, Value.int 181 0, Value.ref 270, Value.none, Value.ref 271, Value.ref 272, Value.ref 273, Value.int 562 0, Value.int 179 0, Value.str (Str.ofString "/claim/cut.py") 563]) #[]) ::
  (nat_lit 275, Obj.mk (Value.type "function") none (Data.func (FuncData.mk (Str.ofString "compared") (Str.ofString "Decimal.compared") af32m5 (FuncBody.stmts bf32m5) sf32m5 3 [] Value.none Value.none Value.none (Value.str (Str.ofString "paperhold.decimals") 493) none (Value.ref 274) Value.none 0)) #[]) ::
  (nat_lit 276, Obj.mk (Value.type "tuple") none (Data.seq #[]) #[]) ::
  (nat_lit 278, Obj.mk (Value.type "tuple") none (Data.seq #[Value.str (Str.ofString "self") 568]) #[]) ::
  (nat_lit 279, Obj.mk (Value.type "tuple") none (Data.seq #[]) #[]) ::
  (nat_lit 281, Obj.mk (Value.type "code") none (Data.fields #[Value.str (Str.ofString "is_whole") 565, Value.str (Str.ofString "Decimal.is_whole") 566, Value.str (Str.ofString "/claim/cut.py") 567, Value.int 182 0, Value.int 1 0, Value.int 0 0, Value.int 0 0, Value.int 3 0, Value.ref 276, Value.bool true, Value.int 181 0, Value.ref 277, Value.none, Value.ref 278, Value.ref 279, Value.ref 280, Value.int 569 0, Value.int 182 0, Value.str (Str.ofString "/claim/cut.py") 570]) #[]) ::
  (nat_lit 282, Obj.mk (Value.type "function") none (Data.func (FuncData.mk (Str.ofString "is_whole") (Str.ofString "Decimal.is_whole") af32m6 (FuncBody.stmts bf32m6) sf32m6 3 [] Value.none Value.none Value.none (Value.str (Str.ofString "paperhold.decimals") 493) none (Value.ref 281) Value.none 0)) #[]) ::
  (nat_lit 283, Obj.mk (Value.type "tuple") none (Data.seq #[]) #[]) ::
  (nat_lit 285, Obj.mk (Value.type "tuple") none (Data.seq #[Value.str (Str.ofString "self") 575]) #[]) ::
  (nat_lit 286, Obj.mk (Value.type "tuple") none (Data.seq #[]) #[]) ::
  (nat_lit 288, Obj.mk (Value.type "code") none (Data.fields #[Value.str (Str.ofString "floor") 572, Value.str (Str.ofString "Decimal.floor") 573, Value.str (Str.ofString "/claim/cut.py") 574, Value.int 185 0, Value.int 1 0, Value.int 0 0, Value.int 0 0, Value.int 3 0, Value.ref 283, Value.bool true, Value.int 181 0, Value.ref 284, Value.none, Value.ref 285, Value.ref 286, Value.ref 287, Value.int 576 0, Value.int 185 0, Value.str (Str.ofString "/claim/cut.py") 577]) #[]) ::
  (nat_lit 289, Obj.mk (Value.type "function") none (Data.func (FuncData.mk (Str.ofString "floor") (Str.ofString "Decimal.floor") af32m7 (FuncBody.stmts bf32m7) sf32m7 3 [] Value.none Value.none Value.none (Value.str (Str.ofString "paperhold.decimals") 493) none (Value.ref 288) Value.none 0)) #[]) ::
  (nat_lit 290, Obj.mk (Value.type "tuple") none (Data.seq #[]) #[]) ::
  (nat_lit 292, Obj.mk (Value.type "tuple") none (Data.seq #[Value.str (Str.ofString "self") 582, Value.str (Str.ofString "places") 583]) #[]) ::
  (nat_lit 293, Obj.mk (Value.type "tuple") none (Data.seq #[]) #[]) ::
  (nat_lit 295, Obj.mk (Value.type "code") none (Data.fields #[Value.str (Str.ofString "rounded") 579, Value.str (Str.ofString "Decimal.rounded") 580, Value.str (Str.ofString "/claim/cut.py") 581, Value.int 188 0, Value.int 2 0, Value.int 0 0, Value.int 0 0, Value.int 3 0, Value.ref 290, Value.bool true, Value.int 181 0, Value.ref 291, Value.none, Value.ref 292, Value.ref 293, Value.ref 294, Value.int 584 0, Value.int 188 0, Value.str (Str.ofString "/claim/cut.py") 585]) #[]) ::
  (nat_lit 296, Obj.mk (Value.type "function") none (Data.func (FuncData.mk (Str.ofString "rounded") (Str.ofString "Decimal.rounded") af32m8 (FuncBody.stmts bf32m8) sf32m8 3 [] Value.none Value.none Value.none (Value.str (Str.ofString "paperhold.decimals") 493) none (Value.ref 295) Value.none 0)) #[]) ::
  (nat_lit 297, Obj.mk (Value.type "tuple") none (Data.seq #[]) #[]) ::
  (nat_lit 299, Obj.mk (Value.type "tuple") none (Data.seq #[Value.str (Str.ofString "self") 590]) #[]) ::
  (nat_lit 300, Obj.mk (Value.type "tuple") none (Data.seq #[]) #[]) ::
  (nat_lit 302, Obj.mk (Value.type "code") none (Data.fields #[Value.str (Str.ofString "told") 587, Value.str (Str.ofString "Decimal.told") 588, Value.str (Str.ofString "/claim/cut.py") 589, Value.int 193 0, Value.int 1 0, Value.int 0 0, Value.int 0 0, Value.int 3 0, Value.ref 297, Value.bool true, Value.int 181 0, Value.ref 298, Value.none, Value.ref 299, Value.ref 300, Value.ref 301, Value.int 591 0, Value.int 193 0, Value.str (Str.ofString "/claim/cut.py") 592]) #[]) ::
  (nat_lit 303, Obj.mk (Value.type "function") none (Data.func (FuncData.mk (Str.ofString "told") (Str.ofString "Decimal.told") af32m9 (FuncBody.stmts bf32m9) sf32m9 3 [] Value.none Value.none Value.none (Value.str (Str.ofString "paperhold.decimals") 493) none (Value.ref 302) Value.none 0)) #[]) ::
  (nat_lit 304, Obj.mk (Value.type "tuple") none (Data.seq #[]) #[]) ::
  (nat_lit 306, Obj.mk (Value.type "tuple") none (Data.seq #[Value.str (Str.ofString "self") 597, Value.str (Str.ofString "numerals") 598]) #[]) ::
  (nat_lit 307, Obj.mk (Value.type "tuple") none (Data.seq #[]) #[]) ::
  (nat_lit 309, Obj.mk (Value.type "code") none (Data.fields #[Value.str (Str.ofString "text") 594, Value.str (Str.ofString "Decimal.text") 595, Value.str (Str.ofString "/claim/cut.py") 596, Value.int 196 0, Value.int 1 0, Value.int 0 0, Value.int 0 0, Value.int 3 0, Value.ref 304, Value.bool true, Value.int 181 0, Value.ref 305, Value.none, Value.ref 306, Value.ref 307, Value.ref 308, Value.int 599 0, Value.int 196 0, Value.str (Str.ofString "/claim/cut.py") 600]) #[]) ::
  (nat_lit 310, Obj.mk (Value.type "function") none (Data.func (FuncData.mk (Str.ofString "text") (Str.ofString "Decimal.text") af32m10 (FuncBody.stmts bf32m10) sf32m10 3 [] Value.none Value.none Value.none (Value.str (Str.ofString "paperhold.decimals") 493) none (Value.ref 309) Value.none 0)) #[]) ::
  (nat_lit 311, Obj.mk (Value.type "tuple") none (Data.seq #[]) #[]) ::
  (nat_lit 313, Obj.mk (Value.type "tuple") none (Data.seq #[Value.str (Str.ofString "self") 605]) #[]) ::
  (nat_lit 314, Obj.mk (Value.type "tuple") none (Data.seq #[]) #[]) ::
  (nat_lit 316, Obj.mk (Value.type "code") none (Data.fields #[Value.str (Str.ofString "least_text") 602, Value.str (Str.ofString "Decimal.least_text") 603, Value.str (Str.ofString "/claim/cut.py") 604, Value.int 203 0, Value.int 1 0, Value.int 0 0, Value.int 0 0, Value.int 3 0, Value.ref 311, Value.bool true, Value.int 181 0, Value.ref 312, Value.none, Value.ref 313, Value.ref 314, Value.ref 315, Value.int 606 0, Value.int 203 0, Value.str (Str.ofString "/claim/cut.py") 607]) #[]) ::
  (nat_lit 317, Obj.mk (Value.type "function") none (Data.func (FuncData.mk (Str.ofString "least_text") (Str.ofString "Decimal.least_text") af32m11 (FuncBody.stmts bf32m11) sf32m11 3 [] Value.none Value.none Value.none (Value.str (Str.ofString "paperhold.decimals") 493) none (Value.ref 316) Value.none 0)) #[]) ::
  (nat_lit 318, Obj.mk (Value.type "tuple") none (Data.seq #[Value.str (Str.ofString "places") 609, Value.str (Str.ofString "top") 610]) #[]) ::
  (nat_lit 319, Obj.mk (Value.type "dict") none (Data.dict #[DictEntry.mk (PyData.keyHash P (Str.ofString "__module__")) (Value.str (Str.ofString "__module__") 512) (Value.str (Str.ofString "paperhold.decimals") 493), DictEntry.mk (PyData.keyHash P (Str.ofString "__firstlineno__")) (Value.str (Str.ofString "__firstlineno__") 516) (Value.int 158 515), DictEntry.mk (PyData.keyHash P (Str.ofString "__init__")) (Value.str (Str.ofString "__init__") 525) (Value.ref 240), DictEntry.mk (PyData.keyHash P (Str.ofString "plus")) (Value.str (Str.ofString "plus") 533) (Value.ref 247), DictEntry.mk (PyData.keyHash P (Str.ofString "minus")) (Value.str (Str.ofString "minus") 541) (Value.ref 254), DictEntry.mk (PyData.keyHash P (Str.ofString "times")) (Value.str (Str.ofString "times") 549) (Value.ref 261), DictEntry.mk (PyData.keyHash P (Str.ofString "negated")) (Value.str (Str.ofString "negated") 556) (Value.ref 268), DictEntry.mk (PyData.keyHash P (Str.ofString "compared")) (Value.str (Str.ofString "compared") 564) (Value.ref 275), DictEntry.mk (PyData.keyHash P (Str.ofString "is_whole")) (Value.str (Str.ofString "is_whole") 571) (Value.ref 282), DictEntry.mk (PyData.keyHash P (Str.ofString "floor")) (Value.str (Str.ofString "floor") 578) (Value.ref 289), DictEntry.mk (PyData.keyHash P (Str.ofString "rounded")) (Value.str (Str.ofString "rounded") 586) (Value.ref 296), DictEntry.mk (PyData.keyHash P (Str.ofString "told")) (Value.str (Str.ofString "told") 593) (Value.ref 303), DictEntry.mk (PyData.keyHash P (Str.ofString "text")) (Value.str (Str.ofString "text") 601) (Value.ref 310), DictEntry.mk (PyData.keyHash P (Str.ofString "least_text")) (Value.str (Str.ofString "least_text") 608) (Value.ref 317), DictEntry.mk (PyData.keyHash P (Str.ofString "__static_attributes__")) (Value.str (Str.ofString "__static_attributes__") 611) (Value.ref 318), DictEntry.mk (PyData.keyHash P (Str.ofString "__dict__")) (Value.str (Str.ofString "__dict__") 613) (Value.ref 321), DictEntry.mk (PyData.keyHash P (Str.ofString "__weakref__")) (Value.str (Str.ofString "__weakref__") 615) (Value.ref 322), DictEntry.mk (PyData.keyHash P (Str.ofString "__doc__")) (Value.str (Str.ofString "__doc__") 616) Value.none] 4) #[]) ::
  (nat_lit 320, Obj.mk (Value.type "type") none (Data.cls (ClassData.mk (Str.ofString "Decimal") [Value.type "object"] [Value.ref 320, Value.type "object"] 319 (Str.ofString "Decimal") true [] [] false none false)) #[none, none, some (Value.str (Str.ofString "Decimal") 505), some (Value.str (Str.ofString "Decimal") 513), some (Value.builtin "object.__new__"), some (Value.bool true)]) ::
  (nat_lit 321, Obj.mk (Value.type "getset_descriptor") none (Data.fields #[Value.str (Str.ofString "__dict__") 612, Value.ref 320, Value.builtin "function.__dict__", Value.builtin "function.__dict__#set"]) #[]) ::
  (nat_lit 322, Obj.mk (Value.type "getset_descriptor") none (Data.fields #[Value.str (Str.ofString "__weakref__") 614, Value.ref 320, Value.builtin "ExceptionGroup.__weakref__", Value.none]) #[]) ::
  (nat_lit 325, Obj.mk (Value.type "tuple") none (Data.seq #[]) #[]) ::
  (nat_lit 327, Obj.mk (Value.type "tuple") none (Data.seq #[Value.str (Str.ofString "number") 622]) #[]) ::
  (nat_lit 328, Obj.mk (Value.type "tuple") none (Data.seq #[]) #[]) ::
  (nat_lit 330, Obj.mk (Value.type "code") none (Data.fields #[Value.str (Str.ofString "sign_text") 619, Value.str (Str.ofString "sign_text") 620, Value.str (Str.ofString "/claim/cut.py") 621, Value.int 205 0, Value.int 1 0, Value.int 0 0, Value.int 0 0, Value.int 3 0, Value.ref 325, Value.bool true, Value.int 181 0, Value.ref 326, Value.none, Value.ref 327, Value.ref 328, Value.ref 329, Value.int 623 0, Value.int 205 0, Value.str (Str.ofString "/claim/cut.py") 624]) #[]) ::
  (nat_lit 331, Obj.mk (Value.type "function") none (Data.func (FuncData.mk (Str.ofString "sign_text") (Str.ofString "sign_text") af33 (FuncBody.stmts bf33) sf33 3 [] Value.none Value.none Value.none (Value.str (Str.ofString "paperhold.decimals") 493) none (Value.ref 330) Value.none 0)) #[]) ::
  (nat_lit 332, Obj.mk (Value.type "tuple") none (Data.seq #[]) #[]) ::
  (nat_lit 334, Obj.mk (Value.type "tuple") none (Data.seq #[Value.str (Str.ofString "number") 629]) #[]) ::
  (nat_lit 335, Obj.mk (Value.type "tuple") none (Data.seq #[]) #[]) ::
  (nat_lit 337, Obj.mk (Value.type "code") none (Data.fields #[Value.str (Str.ofString "sign_of") 626, Value.str (Str.ofString "sign_of") 627, Value.str (Str.ofString "/claim/cut.py") 628, Value.int 207 0, Value.int 1 0, Value.int 0 0, Value.int 0 0, Value.int 3 0, Value.ref 332, Value.bool true, Value.int 181 0, Value.ref 333, Value.none, Value.ref 334, Value.ref 335, Value.ref 336, Value.int 630 0, Value.int 207 0, Value.str (Str.ofString "/claim/cut.py") 631]) #[]) ::
  (nat_lit 338, Obj.mk (Value.type "function") none (Data.func (FuncData.mk (Str.ofString "sign_of") (Str.ofString "sign_of") af34 (FuncBody.stmts bf34) sf34 3 [] Value.none Value.none Value.none (Value.str (Str.ofString "paperhold.decimals") 493) none (Value.ref 337) Value.none 0)) #[]) ::
  (nat_lit 339, Obj.mk (Value.type "tuple") none (Data.seq #[]) #[]) ::
  (nat_lit 341, Obj.mk (Value.type "tuple") none (Data.seq #[Value.str (Str.ofString "top") 636, Value.str (Str.ofString "below") 637, Value.str (Str.ofString "size") 638]) #[]) ::
  (nat_lit 342, Obj.mk (Value.type "tuple") none (Data.seq #[]) #[]) ::
  (nat_lit 344, Obj.mk (Value.type "code") none (Data.fields #[Value.str (Str.ofString "rounded_quotient") 633, Value.str (Str.ofString "rounded_quotient") 634, Value.str (Str.ofString "/claim/cut.py") 635, Value.int 211 0, Value.int 2 0, Value.int 0 0, Value.int 0 0, Value.int 3 0, Value.ref 339, Value.bool true, Value.int 181 0, Value.ref 340, Value.none, Value.ref 341, Value.ref 342, Value.ref 343, Value.int 639 0, Value.int 211 0, Value.str (Str.ofString "/claim/cut.py") 640]) #[]) ::
  (nat_lit 345, Obj.mk (Value.type "function") none (Data.func (FuncData.mk (Str.ofString "rounded_quotient") (Str.ofString "rounded_quotient") af35 (FuncBody.stmts bf35) sf35 3 [] Value.none Value.none Value.none (Value.str (Str.ofString "paperhold.decimals") 493) none (Value.ref 344) Value.none 0)) #[]) ::
  (nat_lit 346, Obj.mk (Value.type "tuple") none (Data.seq #[]) #[]) ::
  (nat_lit 348, Obj.mk (Value.type "tuple") none (Data.seq #[Value.str (Str.ofString "octets") 645, Value.str (Str.ofString "begun") 646, Value.str (Str.ofString "top") 647, Value.str (Str.ofString "numerals") 648, Value.str (Str.ofString "places") 649, Value.str (Str.ofString "code") 650]) #[]) ::
  (nat_lit 349, Obj.mk (Value.type "tuple") none (Data.seq #[]) #[]) ::
  (nat_lit 351, Obj.mk (Value.type "code") none (Data.fields #[Value.str (Str.ofString "read_decimal") 642, Value.str (Str.ofString "read_decimal") 643, Value.str (Str.ofString "/claim/cut.py") 644, Value.int 214 0, Value.int 1 0, Value.int 0 0, Value.int 0 0, Value.int 3 0, Value.ref 346, Value.bool true, Value.int 181 0, Value.ref 347, Value.none, Value.ref 348, Value.ref 349, Value.ref 350, Value.int 651 0, Value.int 214 0, Value.str (Str.ofString "/claim/cut.py") 652]) #[]) ::
  (nat_lit 352, Obj.mk (Value.type "function") none (Data.func (FuncData.mk (Str.ofString "read_decimal") (Str.ofString "read_decimal") af36 (FuncBody.stmts bf36) sf36 3 [] Value.none Value.none Value.none (Value.str (Str.ofString "paperhold.decimals") 493) none (Value.ref 351) Value.none 0)) #[]) ::
  (nat_lit 353, Obj.mk (Value.type "tuple") none (Data.seq #[Value.int 91 670, Value.int 93 671, Value.int 123 672, Value.int 125 673]) #[]) ::
  (nat_lit 354, Obj.mk (Value.type "tuple") none (Data.seq #[]) #[]) ::
  (nat_lit 356, Obj.mk (Value.type "tuple") none (Data.seq #[Value.str (Str.ofString "code") 678]) #[]) ::
  (nat_lit 357, Obj.mk (Value.type "tuple") none (Data.seq #[]) #[]) ::
  (nat_lit 359, Obj.mk (Value.type "code") none (Data.fields #[Value.str (Str.ofString "hex_worth") 675, Value.str (Str.ofString "hex_worth") 676, Value.str (Str.ofString "/claim/cut.py") 677, Value.int 245 0, Value.int 1 0, Value.int 0 0, Value.int 0 0, Value.int 3 0, Value.ref 354, Value.bool true, Value.int 181 0, Value.ref 355, Value.none, Value.ref 356, Value.ref 357, Value.ref 358, Value.int 679 0, Value.int 245 0, Value.str (Str.ofString "/claim/cut.py") 680]) #[]) ::
  (nat_lit 360, Obj.mk (Value.type "function") none (Data.func (FuncData.mk (Str.ofString "hex_worth") (Str.ofString "hex_worth") af46 (FuncBody.stmts bf46) sf46 3 [] Value.none Value.none Value.none (Value.str (Str.ofString "paperhold.lexer") 654) none (Value.ref 359) Value.none 0)) #[]) ::
  (nat_lit 361, Obj.mk (Value.type "tuple") none (Data.seq #[]) #[]) ::
  (nat_lit 363, Obj.mk (Value.type "tuple") none (Data.seq #[Value.str (Str.ofString "code") 685]) #[]) ::
  (nat_lit 364, Obj.mk (Value.type "tuple") none (Data.seq #[]) #[]) ::
  (nat_lit 366, Obj.mk (Value.type "code") none (Data.fields #[Value.str (Str.ofString "plain_escape") 682, Value.str (Str.ofString "plain_escape") 683, Value.str (Str.ofString "/claim/cut.py") 684, Value.int 253 0, Value.int 1 0, Value.int 0 0, Value.int 0 0, Value.int 3 0, Value.ref 361, Value.bool true, Value.int 181 0, Value.ref 362, Value.none, Value.ref 363, Value.ref 364, Value.ref 365, Value.int 686 0, Value.int 253 0, Value.str (Str.ofString "/claim/cut.py") 687]) #[]) ::
  (nat_lit 367, Obj.mk (Value.type "function") none (Data.func (FuncData.mk (Str.ofString "plain_escape") (Str.ofString "plain_escape") af47 (FuncBody.stmts bf47) sf47 3 [] Value.none Value.none Value.none (Value.str (Str.ofString "paperhold.lexer") 654) none (Value.ref 366) Value.none 0)) #[]) ::
  (nat_lit 368, Obj.mk (Value.type "tuple") none (Data.seq #[Value.int (-1) 690]) #[]) ::
  (nat_lit 369, Obj.mk (Value.type "tuple") none (Data.seq #[]) #[]) ::
  (nat_lit 371, Obj.mk (Value.type "tuple") none (Data.seq #[Value.str (Str.ofString "octets") 694, Value.str (Str.ofString "at") 695, Value.str (Str.ofString "signs") 696, Value.str (Str.ofString "place") 697, Value.str (Str.ofString "code") 698, Value.str (Str.ofString "high") 699, Value.str (Str.ofString "low") 700]) #[]) ::
  (nat_lit 372, Obj.mk (Value.type "tuple") none (Data.seq #[]) #[]) ::
  (nat_lit 374, Obj.mk (Value.type "code") none (Data.fields #[Value.str (Str.ofString "name_text") 691, Value.str (Str.ofString "name_text") 692, Value.str (Str.ofString "/claim/cut.py") 693, Value.int 265 0, Value.int 2 0, Value.int 0 0, Value.int 0 0, Value.int 3 0, Value.ref 369, Value.bool true, Value.int 181 0, Value.ref 370, Value.none, Value.ref 371, Value.ref 372, Value.ref 373, Value.int 701 0, Value.int 265 0, Value.str (Str.ofString "/claim/cut.py") 702]) #[]) ::
  (nat_lit 375, Obj.mk (Value.type "function") none (Data.func (FuncData.mk (Str.ofString "name_text") (Str.ofString "name_text") af48 (FuncBody.stmts bf48) sf48 3 [] (Value.ref 368) Value.none Value.none (Value.str (Str.ofString "paperhold.lexer") 654) none (Value.ref 374) Value.none 0)) #[]) ::
  (nat_lit 376, Obj.mk (Value.type "tuple") none (Data.seq #[]) #[]) ::
  (nat_lit 378, Obj.mk (Value.type "tuple") none (Data.seq #[Value.str (Str.ofString "cursor") 707, Value.str (Str.ofString "first") 708, Value.str (Str.ofString "code") 709, Value.str (Str.ofString "taken") 710]) #[]) ::
  (nat_lit 379, Obj.mk (Value.type "tuple") none (Data.seq #[]) #[]) ::
  (nat_lit 381, Obj.mk (Value.type "code") none (Data.fields #[Value.str (Str.ofString "octal") 704, Value.str (Str.ofString "octal") 705, Value.str (Str.ofString "/claim/cut.py") 706, Value.int 281 0, Value.int 2 0, Value.int 0 0, Value.int 0 0, Value.int 3 0, Value.ref 376, Value.bool true, Value.int 181 0, Value.ref 377, Value.none, Value.ref 378, Value.ref 379, Value.ref 380, Value.int 711 0, Value.int 281 0, Value.str (Str.ofString "/claim/cut.py") 712]) #[]) ::
  (nat_lit 382, Obj.mk (Value.type "function") none (Data.func (FuncData.mk (Str.ofString "octal") (Str.ofString "octal") af49 (FuncBody.stmts bf49) sf49 3 [] Value.none Value.none Value.none (Value.str (Str.ofString "paperhold.lexer") 654) none (Value.ref 381) Value.none 0)) #[]) ::
  (nat_lit 383, Obj.mk (Value.type "tuple") none (Data.seq #[]) #[]) ::
  (nat_lit 385, Obj.mk (Value.type "tuple") none (Data.seq #[Value.str (Str.ofString "cursor") 717, Value.str (Str.ofString "code") 718]) #[]) ::
  (nat_lit 386, Obj.mk (Value.type "tuple") none (Data.seq #[]) #[]) ::
  (nat_lit 388, Obj.mk (Value.type "code") none (Data.fields #[Value.str (Str.ofString "escaped_codes") 714, Value.str (Str.ofString "escaped_codes") 715, Value.str (Str.ofString "/claim/cut.py") 716, Value.int 288 0, Value.int 1 0, Value.int 0 0, Value.int 0 0, Value.int 3 0, Value.ref 383, Value.bool true, Value.int 181 0, Value.ref 384, Value.none, Value.ref 385, Value.ref 386, Value.ref 387, Value.int 719 0, Value.int 288 0, Value.str (Str.ofString "/claim/cut.py") 720]) #[]) ::
  (nat_lit 389, Obj.mk (Value.type "function") none (Data.func (FuncData.mk (Str.ofString "escaped_codes") (Str.ofString "escaped_codes") af50 (FuncBody.stmts bf50) sf50 3 [] Value.none Value.none Value.none (Value.str (Str.ofString "paperhold.lexer") 654) none (Value.ref 388) Value.none 0)) #[]) ::
  (nat_lit 390, Obj.mk (Value.type "tuple") none (Data.seq #[]) #[]) ::
  (nat_lit 392, Obj.mk (Value.type "tuple") none (Data.seq #[Value.str (Str.ofString "cursor") 725, Value.str (Str.ofString "opening") 726, Value.str (Str.ofString "codes") 727, Value.str (Str.ofString "depth") 728, Value.str (Str.ofString "code") 729]) #[]) ::
  (nat_lit 393, Obj.mk (Value.type "tuple") none (Data.seq #[]) #[]) ::
  (nat_lit 395, Obj.mk (Value.type "code") none (Data.fields #[Value.str (Str.ofString "literal") 722, Value.str (Str.ofString "literal") 723, Value.str (Str.ofString "/claim/cut.py") 724, Value.int 297 0, Value.int 1 0, Value.int 0 0, Value.int 0 0, Value.int 3 0, Value.ref 390, Value.bool true, Value.int 181 0, Value.ref 391, Value.none, Value.ref 392, Value.ref 393, Value.ref 394, Value.int 730 0, Value.int 297 0, Value.str (Str.ofString "/claim/cut.py") 731]) #[]) ::
  (nat_lit 396, Obj.mk (Value.type "function") none (Data.func (FuncData.mk (Str.ofString "literal") (Str.ofString "literal") af51 (FuncBody.stmts bf51) sf51 3 [] Value.none Value.none Value.none (Value.str (Str.ofString "paperhold.lexer") 654) none (Value.ref 395) Value.none 0)) #[]) ::
  (nat_lit 397, Obj.mk (Value.type "tuple") none (Data.seq #[]) #[]) ::
  (nat_lit 400, Obj.mk (Value.type "code") none (Data.fields #[Value.str (Str.ofString "hex_string") 733, Value.str (Str.ofString "hex_string") 734, Value.str (Str.ofString "/claim/cut.py") 735, Value.int 317 0, Value.int 1 0, Value.int 0 0, Value.int 0 0, Value.int 3 0, Value.ref 397, Value.bool true, Value.int 181 0, Value.ref 398, Value.none, Value.none, Value.none, Value.ref 399, Value.int 736 0, Value.int 317 0, Value.str (Str.ofString "/claim/cut.py") 737]) #[]) ::
  (nat_lit 401, Obj.mk (Value.type "function") none (Data.func (FuncData.mk (Str.ofString "hex_string") (Str.ofString "hex_string") af52 (FuncBody.stmts bf52) sf52 3 [] Value.none Value.none Value.none (Value.str (Str.ofString "paperhold.lexer") 654) none (Value.ref 400) Value.none 0)) #[]) ::
  (nat_lit 402, Obj.mk (Value.type "tuple") none (Data.seq #[]) #[]) ::
  (nat_lit 404, Obj.mk (Value.type "tuple") none (Data.seq #[Value.str (Str.ofString "cursor") 742, Value.str (Str.ofString "at") 743, Value.str (Str.ofString "run") 744, Value.str (Str.ofString "number") 745]) #[]) ::
  (nat_lit 405, Obj.mk (Value.type "tuple") none (Data.seq #[]) #[]) ::
  (nat_lit 407, Obj.mk (Value.type "code") none (Data.fields #[Value.str (Str.ofString "run_token") 739, Value.str (Str.ofString "run_token") 740, Value.str (Str.ofString "/claim/cut.py") 741, Value.int 332 0, Value.int 2 0, Value.int 0 0, Value.int 0 0, Value.int 3 0, Value.ref 402, Value.bool true, Value.int 181 0, Value.ref 403, Value.none, Value.ref 404, Value.ref 405, Value.ref 406, Value.int 746 0, Value.int 332 0, Value.str (Str.ofString "/claim/cut.py") 747]) #[]) ::
  (nat_lit 408, Obj.mk (Value.type "function") none (Data.func (FuncData.mk (Str.ofString "run_token") (Str.ofString "run_token") af53 (FuncBody.stmts bf53) sf53 3 [] Value.none Value.none Value.none (Value.str (Str.ofString "paperhold.lexer") 654) none (Value.ref 407) Value.none 0)) #[]) ::
  (nat_lit 409, Obj.mk (Value.type "tuple") none (Data.seq #[]) #[]) ::
  (nat_lit 411, Obj.mk (Value.type "tuple") none (Data.seq #[Value.str (Str.ofString "cursor") 752, Value.str (Str.ofString "code") 753, Value.str (Str.ofString "at") 754]) #[]) ::
  (nat_lit 412, Obj.mk (Value.type "tuple") none (Data.seq #[]) #[]) ::
  (nat_lit 414, Obj.mk (Value.type "code") none (Data.fields #[Value.str (Str.ofString "delimited_token") 749, Value.str (Str.ofString "delimited_token") 750, Value.str (Str.ofString "/claim/cut.py") 751, Value.int 340 0, Value.int 3 0, Value.int 0 0, Value.int 0 0, Value.int 3 0, Value.ref 409, Value.bool true, Value.int 181 0, Value.ref 410, Value.none, Value.ref 411, Value.ref 412, Value.ref 413, Value.int 755 0, Value.int 340 0, Value.str (Str.ofString "/claim/cut.py") 756]) #[]) ::
  (nat_lit 415, Obj.mk (Value.type "function") none (Data.func (FuncData.mk (Str.ofString "delimited_token") (Str.ofString "delimited_token") af54 (FuncBody.stmts bf54) sf54 3 [] Value.none Value.none Value.none (Value.str (Str.ofString "paperhold.lexer") 654) none (Value.ref 414) Value.none 0)) #[]) ::
  (nat_lit 416, Obj.mk (Value.type "tuple") none (Data.seq #[]) #[]) ::
  (nat_lit 418, Obj.mk (Value.type "tuple") none (Data.seq #[Value.str (Str.ofString "cursor") 761, Value.str (Str.ofString "at") 762, Value.str (Str.ofString "code") 763]) #[]) ::
  (nat_lit 419, Obj.mk (Value.type "tuple") none (Data.seq #[]) #[]) ::
  (nat_lit 421, Obj.mk (Value.type "code") none (Data.fields #[Value.str (Str.ofString "next_token") 758, Value.str (Str.ofString "next_token") 759, Value.str (Str.ofString "/claim/cut.py") 760, Value.int 358 0, Value.int 1 0, Value.int 0 0, Value.int 0 0, Value.int 3 0, Value.ref 416, Value.bool true, Value.int 181 0, Value.ref 417, Value.none, Value.ref 418, Value.ref 419, Value.ref 420, Value.int 764 0, Value.int 358 0, Value.str (Str.ofString "/claim/cut.py") 765]) #[]) ::
  (nat_lit 422, Obj.mk (Value.type "function") none (Data.func (FuncData.mk (Str.ofString "next_token") (Str.ofString "next_token") af55 (FuncBody.stmts bf55) sf55 3 [] Value.none Value.none Value.none (Value.str (Str.ofString "paperhold.lexer") 654) none (Value.ref 421) Value.none 0)) #[]) ::
  (nat_lit 430, Obj.mk (Value.type "tuple") none (Data.seq #[Value.bool false]) #[]) ::
  (nat_lit 431, Obj.mk (Value.type "tuple") none (Data.seq #[]) #[]) ::
  (nat_lit 433, Obj.mk (Value.type "tuple") none (Data.seq #[Value.str (Str.ofString "self") 784, Value.str (Str.ofString "octets") 785, Value.str (Str.ofString "is_hex") 786]) #[]) ::
  (nat_lit 434, Obj.mk (Value.type "tuple") none (Data.seq #[]) #[]) ::
  (nat_lit 436, Obj.mk (Value.type "code") none (Data.fields #[Value.str (Str.ofString "__init__") 781, Value.str (Str.ofString "String.__init__") 782, Value.str (Str.ofString "/claim/cut.py") 783, Value.int 370 0, Value.int 3 0, Value.int 0 0, Value.int 0 0, Value.int 3 0, Value.ref 431, Value.bool true, Value.int 181 0, Value.ref 432, Value.none, Value.ref 433, Value.ref 434, Value.ref 435, Value.int 787 0, Value.int 370 0, Value.str (Str.ofString "/claim/cut.py") 788]) #[]) ::
  (nat_lit 437, Obj.mk (Value.type "function") none (Data.func (FuncData.mk (Str.ofString "__init__") (Str.ofString "String.__init__") af57m0 (FuncBody.stmts bf57m0) sf57m0 3 [] (Value.ref 430) Value.none Value.none (Value.str (Str.ofString "paperhold.objects") 767) none (Value.ref 436) Value.none 0)) #[]) ::
  (nat_lit 438, Obj.mk (Value.type "tuple") none (Data.seq #[Value.str (Str.ofString "is_hex") 790, Value.str (Str.ofString "octets") 791]) #[]) ::
  (nat_lit 439, Obj.mk (Value.type "dict") none (Data.dict #[DictEntry.mk (PyData.keyHash P (Str.ofString "__module__")) (Value.str (Str.ofString "__module__") 776) (Value.str (Str.ofString "paperhold.objects") 767), DictEntry.mk (PyData.keyHash P (Str.ofString "__firstlineno__")) (Value.str (Str.ofString "__firstlineno__") 780) (Value.int 368 779), DictEntry.mk (PyData.keyHash P (Str.ofString "__init__")) (Value.str (Str.ofString "__init__") 789) (Value.ref 437), DictEntry.mk (PyData.keyHash P (Str.ofString "__static_attributes__")) (Value.str (Str.ofString "__static_attributes__") 792) (Value.ref 438), DictEntry.mk (PyData.keyHash P (Str.ofString "__dict__")) (Value.str (Str.ofString "__dict__") 794) (Value.ref 441), DictEntry.mk (PyData.keyHash P (Str.ofString "__weakref__")) (Value.str (Str.ofString "__weakref__") 796) (Value.ref 442), DictEntry.mk (PyData.keyHash P (Str.ofString "__doc__")) (Value.str (Str.ofString "__doc__") 797) Value.none] 4) #[]) ::
  (nat_lit 440, Obj.mk (Value.type "type") none (Data.cls (ClassData.mk (Str.ofString "String") [Value.type "object"] [Value.ref 440, Value.type "object"] 439 (Str.ofString "String") true [] [] false none false)) #[none, none, some (Value.str (Str.ofString "String") 769), some (Value.str (Str.ofString "String") 777), some (Value.builtin "object.__new__"), some (Value.bool true)]) ::
  (nat_lit 441, Obj.mk (Value.type "getset_descriptor") none (Data.fields #[Value.str (Str.ofString "__dict__") 793, Value.ref 440, Value.builtin "function.__dict__", Value.builtin "function.__dict__#set"]) #[]) ::
  (nat_lit 442, Obj.mk (Value.type "getset_descriptor") none (Data.fields #[Value.str (Str.ofString "__weakref__") 795, Value.ref 440, Value.builtin "ExceptionGroup.__weakref__", Value.none]) #[]) ::
  (nat_lit 445, Obj.mk (Value.type "tuple") none (Data.seq #[]) #[]) ::
  (nat_lit 448, Obj.mk (Value.type "code") none (Data.fields #[Value.str (Str.ofString "_law_pen") 802, Value.str (Str.ofString "_law_pen") 803, Value.str (Str.ofString "/claim/cut.py") 804, Value.int 374 0, Value.int 1 0, Value.int 0 0, Value.int 0 0, Value.int 3 0, Value.ref 445, Value.bool true, Value.int 181 0, Value.ref 446, Value.none, Value.none, Value.none, Value.ref 447, Value.int 805 0, Value.int 374 0, Value.str (Str.ofString "/claim/cut.py") 806]) #[]) ::
  (nat_lit 449, Obj.mk (Value.type "function") none (Data.func (FuncData.mk (Str.ofString "_law_pen") (Str.ofString "_law_pen") af59 (FuncBody.stmts bf59) sf59 3 [] Value.none Value.none Value.none (Value.str (Str.ofString "law_og0184_01") 800) none (Value.ref 448) Value.none 0)) #[]) ::
  (nat_lit 450, Obj.mk (Value.type "tuple") none (Data.seq #[]) #[]) ::
  (nat_lit 452, Obj.mk (Value.type "tuple") none (Data.seq #[Value.str (Str.ofString "pen") 811, Value.str (Str.ofString "many") 812, Value.str (Str.ofString "digit") 813]) #[]) ::
  (nat_lit 453, Obj.mk (Value.type "tuple") none (Data.seq #[]) #[]) ::
  (nat_lit 455, Obj.mk (Value.type "code") none (Data.fields #[Value.str (Str.ofString "_law_draw") 808, Value.str (Str.ofString "_law_draw") 809, Value.str (Str.ofString "/claim/cut.py") 810, Value.int 376 0, Value.int 2 0, Value.int 0 0, Value.int 0 0, Value.int 3 0, Value.ref 450, Value.bool true, Value.int 181 0, Value.ref 451, Value.none, Value.ref 452, Value.ref 453, Value.ref 454, Value.int 814 0, Value.int 376 0, Value.str (Str.ofString "/claim/cut.py") 815]) #[]) ::
  (nat_lit 456, Obj.mk (Value.type "function") none (Data.func (FuncData.mk (Str.ofString "_law_draw") (Str.ofString "_law_draw") af60 (FuncBody.stmts bf60) sf60 3 [] Value.none Value.none Value.none (Value.str (Str.ofString "law_og0184_01") 800) none (Value.ref 455) Value.none 0)) #[]) ::
  (nat_lit 457, Obj.mk (Value.type "tuple") none (Data.seq #[]) #[]) ::
  (nat_lit 459, Obj.mk (Value.type "tuple") none (Data.seq #[Value.str (Str.ofString "pen") 820, Value.str (Str.ofString "some") 821]) #[]) ::
  (nat_lit 460, Obj.mk (Value.type "tuple") none (Data.seq #[]) #[]) ::
  (nat_lit 462, Obj.mk (Value.type "code") none (Data.fields #[Value.str (Str.ofString "_law_pick") 817, Value.str (Str.ofString "_law_pick") 818, Value.str (Str.ofString "/claim/cut.py") 819, Value.int 383 0, Value.int 2 0, Value.int 0 0, Value.int 0 0, Value.int 3 0, Value.ref 457, Value.bool true, Value.int 181 0, Value.ref 458, Value.none, Value.ref 459, Value.ref 460, Value.ref 461, Value.int 822 0, Value.int 383 0, Value.str (Str.ofString "/claim/cut.py") 823]) #[]) ::
  (nat_lit 463, Obj.mk (Value.type "function") none (Data.func (FuncData.mk (Str.ofString "_law_pick") (Str.ofString "_law_pick") af61 (FuncBody.stmts bf61) sf61 3 [] Value.none Value.none Value.none (Value.str (Str.ofString "law_og0184_01") 800) none (Value.ref 462) Value.none 0)) #[]) ::
  (nat_lit 464, Obj.mk (Value.type "tuple") none (Data.seq #[]) #[]) ::
  (nat_lit 467, Obj.mk (Value.type "code") none (Data.fields #[Value.str (Str.ofString "_law_octets") 825, Value.str (Str.ofString "_law_octets") 826, Value.str (Str.ofString "/claim/cut.py") 827, Value.int 385 0, Value.int 1 0, Value.int 0 0, Value.int 0 0, Value.int 3 0, Value.ref 464, Value.bool true, Value.int 181 0, Value.ref 465, Value.none, Value.none, Value.none, Value.ref 466, Value.int 828 0, Value.int 385 0, Value.str (Str.ofString "/claim/cut.py") 829]) #[]) ::
  (nat_lit 468, Obj.mk (Value.type "function") none (Data.func (FuncData.mk (Str.ofString "_law_octets") (Str.ofString "_law_octets") af62 (FuncBody.stmts bf62) sf62 3 [] Value.none Value.none Value.none (Value.str (Str.ofString "law_og0184_01") 800) none (Value.ref 467) Value.none 0)) #[]) ::
  (nat_lit 469, Obj.mk (Value.type "tuple") none (Data.seq #[]) #[]) ::
  (nat_lit 471, Obj.mk (Value.type "tuple") none (Data.seq #[Value.str (Str.ofString "octets") 834, Value.str (Str.ofString "found") 835, Value.str (Str.ofString "at") 836, Value.str (Str.ofString "code") 837, Value.str (Str.ofString "depth") 838, Value.str (Str.ofString "partner") 839, Value.str (Str.ofString "step") 840, Value.str (Str.ofString "spot") 841]) #[]) ::
  (nat_lit 472, Obj.mk (Value.type "tuple") none (Data.seq #[]) #[]) ::
  (nat_lit 474, Obj.mk (Value.type "code") none (Data.fields #[Value.str (Str.ofString "_law_lone") 831, Value.str (Str.ofString "_law_lone") 832, Value.str (Str.ofString "/claim/cut.py") 833, Value.int 387 0, Value.int 1 0, Value.int 0 0, Value.int 0 0, Value.int 3 0, Value.ref 469, Value.bool true, Value.int 181 0, Value.ref 470, Value.none, Value.ref 471, Value.ref 472, Value.ref 473, Value.int 842 0, Value.int 387 0, Value.str (Str.ofString "/claim/cut.py") 843]) #[]) ::
  (nat_lit 475, Obj.mk (Value.type "function") none (Data.func (FuncData.mk (Str.ofString "_law_lone") (Str.ofString "_law_lone") af63 (FuncBody.stmts bf63) sf63 3 [] Value.none Value.none Value.none (Value.str (Str.ofString "law_og0184_01") 800) none (Value.ref 474) Value.none 0)) #[]) ::
  (nat_lit 476, Obj.mk (Value.type "tuple") none (Data.seq #[]) #[]) ::
  (nat_lit 478, Obj.mk (Value.type "tuple") none (Data.seq #[Value.str (Str.ofString "octets") 848, Value.str (Str.ofString "found") 849, Value.str (Str.ofString "at") 850, Value.str (Str.ofString "depth") 851, Value.str (Str.ofString "code") 852]) #[]) ::
  (nat_lit 479, Obj.mk (Value.type "tuple") none (Data.seq #[]) #[]) ::
  (nat_lit 481, Obj.mk (Value.type "code") none (Data.fields #[Value.str (Str.ofString "_law_read") 845, Value.str (Str.ofString "_law_read") 846, Value.str (Str.ofString "/claim/cut.py") 847, Value.int 402 0, Value.int 1 0, Value.int 0 0, Value.int 0 0, Value.int 3 0, Value.ref 476, Value.bool true, Value.int 181 0, Value.ref 477, Value.none, Value.ref 478, Value.ref 479, Value.ref 480, Value.int 853 0, Value.int 402 0, Value.str (Str.ofString "/claim/cut.py") 854]) #[]) ::
  (nat_lit 482, Obj.mk (Value.type "function") none (Data.func (FuncData.mk (Str.ofString "_law_read") (Str.ofString "_law_read") af64 (FuncBody.stmts bf64) sf64 3 [] Value.none Value.none Value.none (Value.str (Str.ofString "law_og0184_01") 800) none (Value.ref 481) Value.none 0)) #[]) ::
  (nat_lit 483, Obj.mk (Value.type "tuple") none (Data.seq #[]) #[]) ::
  (nat_lit 486, Obj.mk (Value.type "code") none (Data.fields #[Value.str (Str.ofString "_law_string_holds") 856, Value.str (Str.ofString "_law_string_holds") 857, Value.str (Str.ofString "/claim/cut.py") 858, Value.int 416 0, Value.int 1 0, Value.int 0 0, Value.int 0 0, Value.int 3 0, Value.ref 483, Value.bool true, Value.int 181 0, Value.ref 484, Value.none, Value.none, Value.none, Value.ref 485, Value.int 859 0, Value.int 416 0, Value.str (Str.ofString "/claim/cut.py") 860]) #[]) ::
  (nat_lit 487, Obj.mk (Value.type "function") none (Data.func (FuncData.mk (Str.ofString "_law_string_holds") (Str.ofString "_law_string_holds") af65 (FuncBody.stmts bf65) sf65 3 [] Value.none Value.none Value.none (Value.str (Str.ofString "law_og0184_01") 800) none (Value.ref 486) Value.none 0)) #[]) ::
  (nat_lit 488, Obj.mk (Value.type "tuple") none (Data.seq #[]) #[]) ::
  (nat_lit 490, Obj.mk (Value.type "tuple") none (Data.seq #[Value.str (Str.ofString "script") 865, Value.str (Str.ofString "pen") 866, Value.str (Str.ofString "one") 867, Value.str (Str.ofString "other") 868]) #[]) ::
  (nat_lit 491, Obj.mk (Value.type "tuple") none (Data.seq #[]) #[]) ::
  (nat_lit 493, Obj.mk (Value.type "code") none (Data.fields #[Value.str (Str.ofString "law") 862, Value.str (Str.ofString "law") 863, Value.str (Str.ofString "/claim/cut.py") 864, Value.int 435 0, Value.int 1 0, Value.int 0 0, Value.int 0 0, Value.int 3 0, Value.ref 488, Value.bool true, Value.int 181 0, Value.ref 489, Value.none, Value.ref 490, Value.ref 491, Value.ref 492, Value.int 869 0, Value.int 435 0, Value.str (Str.ofString "/claim/cut.py") 870]) #[]) ::
  (nat_lit 494, Obj.mk (Value.type "function") none (Data.func (FuncData.mk (Str.ofString "law") (Str.ofString "law") af66 (FuncBody.stmts bf66) sf66 3 [] Value.none Value.none Value.none (Value.str (Str.ofString "law_og0184_01") 800) none (Value.ref 493) Value.none 0)) #[]) ::
  [] : Frag)) rfl
/-- an object of the frag -/
noncomputable def kO (P : Params) (a : Nat) : Obj := ((hd.heap_39 P).lookup a).getD default
/-- what a def's object is made from -/
def bareFn : Obj → Obj
  | ⟨_, d, .func f, s⟩ => ⟨.none, d, .func { f with globals := 0, defaults := .none, pyModule := .none, code := .none }, s⟩
  | o => o
noncomputable def tO (P : Params) (a : Nat) : Obj := bareFn (kO P a)
-- the objects that stand at a cut and are not the frag's
noncomputable def mo22_3 (P : Params) : Obj := Obj.mk (Value.type "dict") none (Data.dict #[DictEntry.mk (PyData.keyHash P (Str.ofString "__name__")) (Value.str (Str.ofString "__name__") 165) (Value.str (Str.ofString "paperhold.cursor") 253), DictEntry.mk (PyData.keyHash P (Str.ofString "__doc__")) (Value.str (Str.ofString "__doc__") 166) Value.none, DictEntry.mk (PyData.keyHash P (Str.ofString "__package__")) (Value.str (Str.ofString "__package__") 167) Value.none, DictEntry.mk (PyData.keyHash P (Str.ofString "__loader__")) (Value.str (Str.ofString "__loader__") 168) (Value.builtin "__main__.__loader__#opaque"), DictEntry.mk (PyData.keyHash P (Str.ofString "__spec__")) (Value.str (Str.ofString "__spec__") 169) Value.none, DictEntry.mk (PyData.keyHash P (Str.ofString "__annotations__")) (Value.str (Str.ofString "__annotations__") 170) (Value.ref 6), DictEntry.mk (PyData.keyHash P (Str.ofString "__builtins__")) (Value.str (Str.ofString "__builtins__") 171) (Value.ref 4), DictEntry.mk (PyData.keyHash P (Str.ofString "__file__")) (Value.str (Str.ofString "__file__") 173) (Value.str (Str.ofString "/claim/cut.py") 172), DictEntry.mk (PyData.keyHash P (Str.ofString "__cached__")) (Value.str (Str.ofString "__cached__") 174) Value.none, DictEntry.mk (PyData.keyHash P (Str.ofString "_wall")) (Value.str (Str.ofString "_wall") 193) (Value.ref 21), DictEntry.mk (PyData.keyHash P (Str.ofString "BACKSLASH_writer")) (Value.str (Str.ofString "BACKSLASH_writer") 197) (Value.int 92 196), DictEntry.mk (PyData.keyHash P (Str.ofString "OPEN_BRACKET")) (Value.str (Str.ofString "OPEN_BRACKET") 199) (Value.int 40 198), DictEntry.mk (PyData.keyHash P (Str.ofString "CLOSE_BRACKET")) (Value.str (Str.ofString "CLOSE_BRACKET") 201) (Value.int 41 200), DictEntry.mk (PyData.keyHash P (Str.ofString "CARRIAGE")) (Value.str (Str.ofString "CARRIAGE") 203) (Value.int 13 202), DictEntry.mk (PyData.keyHash P (Str.ofString "HEX_FIGURES")) (Value.str (Str.ofString "HEX_FIGURES") 205) (Value.bytes #[48, 49, 50, 51, 52, 53, 54, 55, 56, 57, 65, 66, 67, 68, 69, 70] 204), DictEntry.mk (PyData.keyHash P (Str.ofString "hex_pair")) (Value.str (Str.ofString "hex_pair") 212) (Value.ref 28), DictEntry.mk (PyData.keyHash P (Str.ofString "lone_brackets")) (Value.str (Str.ofString "lone_brackets") 222) (Value.ref 35), DictEntry.mk (PyData.keyHash P (Str.ofString "literal_octets")) (Value.str (Str.ofString "literal_octets") 233) (Value.ref 42), DictEntry.mk (PyData.keyHash P (Str.ofString "hex_octets")) (Value.str (Str.ofString "hex_octets") 242) (Value.ref 49), DictEntry.mk (PyData.keyHash P (Str.ofString "string_octets")) (Value.str (Str.ofString "string_octets") 252) (Value.ref 56), DictEntry.mk (PyData.keyHash P (Str.ofString "WHITE")) (Value.str (Str.ofString "WHITE") 261) (Value.ref 57), DictEntry.mk (PyData.keyHash P (Str.ofString "DELIMITERS")) (Value.str (Str.ofString "DELIMITERS") 272) (Value.ref 58), DictEntry.mk (PyData.keyHash P (Str.ofString "LINE_FEED")) (Value.str (Str.ofString "LINE_FEED") 274) (Value.int 10 273), DictEntry.mk (PyData.keyHash P (Str.ofString "RETURN")) (Value.str (Str.ofString "RETURN") 276) (Value.int 13 275), DictEntry.mk (PyData.keyHash P (Str.ofString "COMMENT")) (Value.str (Str.ofString "COMMENT") 278) (Value.int 37 277), DictEntry.mk (PyData.keyHash P (Str.ofString "MOST_FIGURES_cursor")) (Value.str (Str.ofString "MOST_FIGURES_cursor") 280) (Value.int 20 279), DictEntry.mk (PyData.keyHash P (Str.ofString "is_white")) (Value.str (Str.ofString "is_white") 287) (Value.ref 65), DictEntry.mk (PyData.keyHash P (Str.ofString "is_regular")) (Value.str (Str.ofString "is_regular") 294) (Value.ref 72), DictEntry.mk (PyData.keyHash P (Str.ofString "is_figure")) (Value.str (Str.ofString "is_figure") 301) (Value.ref 79), DictEntry.mk (PyData.keyHash P (Str.ofString "Cursor")) (Value.str (Str.ofString "Cursor") 434) (Value.ref 182)] 30) #[]
noncomputable def mo22_11 (_P : Params) : Obj := Obj.mk (Value.type "tuple") none (Data.seq #[]) #[]
noncomputable def mo22_12 (_P : Params) : Obj := Obj.mk Value.none none (Data.fields #[Value.int 1 0, Value.int 0 0, Value.ref 20, Value.int 10 0, Value.int 0 0, Value.ref 27, Value.int 12 0, Value.int 0 0, Value.ref 34, Value.int 26 0, Value.int 0 0, Value.ref 41, Value.int 39 0, Value.int 0 0, Value.ref 48, Value.int 45 0, Value.int 0 0, Value.ref 55, Value.int 58 0, Value.int 0 0, Value.ref 64, Value.int 60 0, Value.int 0 0, Value.ref 71, Value.int 62 0, Value.int 0 0, Value.ref 78, Value.int 64 0, Value.int 0 0, Value.ref 85]) #[]
noncomputable def mo22_13 (_P : Params) : Obj := Obj.mk (Value.type "code") none (Data.fields #[Value.str (Str.ofString "<module>") 182, Value.str (Str.ofString "<module>") 183, Value.str (Str.ofString "/claim/cut.py") 184, Value.int 1 0, Value.int 0 0, Value.int 0 0, Value.int 0 0, Value.int 0 0, Value.ref 11, Value.bool false, Value.int 181 0, Value.ref 12, Value.none, Value.none, Value.none, Value.none, Value.int 185 0, Value.int 1 0, Value.str (Str.ofString "/claim/cut.py") 186]) #[]
noncomputable def mo22_14 (_P : Params) : Obj := Obj.mk (Value.type "frame") none Data.plain #[some (Value.ref 13), some (Value.ref 3), some (Value.ref 3), none, some (Value.str (Str.ofString "__main__") 164), none, some (Value.ref 0)]
noncomputable def mo22_16 (_P : Params) : Obj := Obj.mk Value.none none (Data.fields #[]) #[]
noncomputable def mo22_23 (_P : Params) : Obj := Obj.mk Value.none none (Data.fields #[]) #[]
noncomputable def mo22_30 (_P : Params) : Obj := Obj.mk Value.none none (Data.fields #[]) #[]
noncomputable def mo22_37 (_P : Params) : Obj := Obj.mk Value.none none (Data.fields #[]) #[]
noncomputable def mo22_44 (_P : Params) : Obj := Obj.mk Value.none none (Data.fields #[]) #[]
noncomputable def mo22_51 (_P : Params) : Obj := Obj.mk Value.none none (Data.fields #[]) #[]
noncomputable def mo22_60 (_P : Params) : Obj := Obj.mk Value.none none (Data.fields #[]) #[]
noncomputable def mo22_67 (_P : Params) : Obj := Obj.mk Value.none none (Data.fields #[]) #[]
noncomputable def mo22_74 (_P : Params) : Obj := Obj.mk Value.none none (Data.fields #[]) #[]
noncomputable def mo22_80 (_P : Params) : Obj := Obj.mk (Value.type "tuple") none (Data.seq #[]) #[]
noncomputable def mo22_81 (_P : Params) : Obj := Obj.mk (Value.type "builtin_function_or_method") none (Data.fields #[Value.builtin "type.__prepare__", Value.type "type"]) #[]
noncomputable def mo22_82 (P : Params) : Obj := Obj.mk (Value.type "dict") none (Data.dict #[DictEntry.mk (PyData.keyHash P (Str.ofString "__module__")) (Value.str (Str.ofString "__module__") 309) (Value.str (Str.ofString "paperhold.cursor") 253), DictEntry.mk (PyData.keyHash P (Str.ofString "__qualname__")) (Value.str (Str.ofString "__qualname__") 311) (Value.str (Str.ofString "Cursor") 310), DictEntry.mk (PyData.keyHash P (Str.ofString "__firstlineno__")) (Value.str (Str.ofString "__firstlineno__") 313) (Value.int 64 312), DictEntry.mk (PyData.keyHash P (Str.ofString "__init__")) (Value.str (Str.ofString "__init__") 326) (Value.ref 94), DictEntry.mk (PyData.keyHash P (Str.ofString "is_done")) (Value.str (Str.ofString "is_done") 333) (Value.ref 101), DictEntry.mk (PyData.keyHash P (Str.ofString "peek")) (Value.str (Str.ofString "peek") 343) (Value.ref 109), DictEntry.mk (PyData.keyHash P (Str.ofString "take")) (Value.str (Str.ofString "take") 351) (Value.ref 116), DictEntry.mk (PyData.keyHash P (Str.ofString "starts")) (Value.str (Str.ofString "starts") 359) (Value.ref 123), DictEntry.mk (PyData.keyHash P (Str.ofString "skip")) (Value.str (Str.ofString "skip") 367) (Value.ref 130), DictEntry.mk (PyData.keyHash P (Str.ofString "skip_white")) (Value.str (Str.ofString "skip_white") 375) (Value.ref 137), DictEntry.mk (PyData.keyHash P (Str.ofString "take_regular")) (Value.str (Str.ofString "take_regular") 383) (Value.ref 144), DictEntry.mk (PyData.keyHash P (Str.ofString "skip_line_end")) (Value.str (Str.ofString "skip_line_end") 390) (Value.ref 151), DictEntry.mk (PyData.keyHash P (Str.ofString "take_line")) (Value.str (Str.ofString "take_line") 397) (Value.ref 158), DictEntry.mk (PyData.keyHash P (Str.ofString "number")) (Value.str (Str.ofString "number") 406) (Value.ref 165), DictEntry.mk (PyData.keyHash P (Str.ofString "find")) (Value.str (Str.ofString "find") 415) (Value.ref 172), DictEntry.mk (PyData.keyHash P (Str.ofString "find_last")) (Value.str (Str.ofString "find_last") 423) (Value.ref 179), DictEntry.mk (PyData.keyHash P (Str.ofString "__static_attributes__")) (Value.str (Str.ofString "__static_attributes__") 427) (Value.ref 180)] 17) #[]
noncomputable def mo22_83 (_P : Params) : Obj := Obj.mk (Value.type "tuple") none (Data.seq #[]) #[]
noncomputable def mo22_84 (_P : Params) : Obj := Obj.mk Value.none none (Data.fields #[Value.int 66 0, Value.int 4 0, Value.ref 93, Value.int 71 0, Value.int 4 0, Value.ref 100, Value.int 74 0, Value.int 4 0, Value.ref 108, Value.int 78 0, Value.int 4 0, Value.ref 115, Value.int 85 0, Value.int 4 0, Value.ref 122, Value.int 88 0, Value.int 4 0, Value.ref 129, Value.int 94 0, Value.int 4 0, Value.ref 136, Value.int 105 0, Value.int 4 0, Value.ref 143, Value.int 111 0, Value.int 4 0, Value.ref 150, Value.int 122 0, Value.int 4 0, Value.ref 157, Value.int 125 0, Value.int 4 0, Value.ref 164, Value.int 135 0, Value.int 4 0, Value.ref 171, Value.int 138 0, Value.int 4 0, Value.ref 178]) #[]
noncomputable def mo22_85 (_P : Params) : Obj := Obj.mk (Value.type "code") none (Data.fields #[Value.str (Str.ofString "Cursor") 304, Value.str (Str.ofString "Cursor") 305, Value.str (Str.ofString "/claim/cut.py") 306, Value.int 64 0, Value.int 0 0, Value.int 0 0, Value.int 0 0, Value.int 0 0, Value.ref 83, Value.bool false, Value.int 181 0, Value.ref 84, Value.none, Value.none, Value.none, Value.none, Value.int 307 0, Value.int 64 0, Value.str (Str.ofString "/claim/cut.py") 308]) #[]
noncomputable def mo22_86 (_P : Params) : Obj := Obj.mk (Value.type "frame") none Data.plain #[some (Value.ref 85), some (Value.ref 3), some (Value.ref 82), none, some (Value.str (Str.ofString "paperhold.cursor") 253), none, some (Value.ref 0)]
noncomputable def mo22_89 (_P : Params) : Obj := Obj.mk Value.none none (Data.fields #[]) #[]
noncomputable def mo22_96 (_P : Params) : Obj := Obj.mk Value.none none (Data.fields #[]) #[]
noncomputable def mo22_104 (_P : Params) : Obj := Obj.mk Value.none none (Data.fields #[]) #[]
noncomputable def mo22_111 (_P : Params) : Obj := Obj.mk Value.none none (Data.fields #[]) #[]
noncomputable def mo22_118 (_P : Params) : Obj := Obj.mk Value.none none (Data.fields #[]) #[]
noncomputable def mo22_125 (_P : Params) : Obj := Obj.mk Value.none none (Data.fields #[]) #[]
noncomputable def mo22_132 (_P : Params) : Obj := Obj.mk Value.none none (Data.fields #[]) #[]
noncomputable def mo22_139 (_P : Params) : Obj := Obj.mk Value.none none (Data.fields #[]) #[]
noncomputable def mo22_146 (_P : Params) : Obj := Obj.mk Value.none none (Data.fields #[]) #[]
noncomputable def mo22_153 (_P : Params) : Obj := Obj.mk Value.none none (Data.fields #[]) #[]
noncomputable def mo22_160 (_P : Params) : Obj := Obj.mk Value.none none (Data.fields #[]) #[]
noncomputable def mo22_167 (_P : Params) : Obj := Obj.mk Value.none none (Data.fields #[]) #[]
noncomputable def mo22_174 (_P : Params) : Obj := Obj.mk Value.none none (Data.fields #[]) #[]
noncomputable def mo22_185 (_P : Params) : Obj := Obj.mk (Value.type "super") none (Data.fields #[Value.ref 182, Value.ref 182, Value.ref 182]) #[]
noncomputable def mo22_186 (_P : Params) : Obj := Obj.mk (Value.type "builtin_function_or_method") none (Data.fields #[Value.builtin "object.__init_subclass__", Value.ref 182]) #[]
noncomputable def mo32_3 (P : Params) : Obj := Obj.mk (Value.type "dict") none (Data.dict #[DictEntry.mk (PyData.keyHash P (Str.ofString "__name__")) (Value.str (Str.ofString "__name__") 165) (Value.str (Str.ofString "paperhold.decimals") 493), DictEntry.mk (PyData.keyHash P (Str.ofString "__doc__")) (Value.str (Str.ofString "__doc__") 166) Value.none, DictEntry.mk (PyData.keyHash P (Str.ofString "__package__")) (Value.str (Str.ofString "__package__") 167) Value.none, DictEntry.mk (PyData.keyHash P (Str.ofString "__loader__")) (Value.str (Str.ofString "__loader__") 168) (Value.builtin "__main__.__loader__#opaque"), DictEntry.mk (PyData.keyHash P (Str.ofString "__spec__")) (Value.str (Str.ofString "__spec__") 169) Value.none, DictEntry.mk (PyData.keyHash P (Str.ofString "__annotations__")) (Value.str (Str.ofString "__annotations__") 170) (Value.ref 6), DictEntry.mk (PyData.keyHash P (Str.ofString "__builtins__")) (Value.str (Str.ofString "__builtins__") 171) (Value.ref 4), DictEntry.mk (PyData.keyHash P (Str.ofString "__file__")) (Value.str (Str.ofString "__file__") 173) (Value.str (Str.ofString "/claim/cut.py") 172), DictEntry.mk (PyData.keyHash P (Str.ofString "__cached__")) (Value.str (Str.ofString "__cached__") 174) Value.none, DictEntry.mk (PyData.keyHash P (Str.ofString "_wall")) (Value.str (Str.ofString "_wall") 193) (Value.ref 21), DictEntry.mk (PyData.keyHash P (Str.ofString "BACKSLASH_writer")) (Value.str (Str.ofString "BACKSLASH_writer") 197) (Value.int 92 196), DictEntry.mk (PyData.keyHash P (Str.ofString "OPEN_BRACKET")) (Value.str (Str.ofString "OPEN_BRACKET") 199) (Value.int 40 198), DictEntry.mk (PyData.keyHash P (Str.ofString "CLOSE_BRACKET")) (Value.str (Str.ofString "CLOSE_BRACKET") 201) (Value.int 41 200), DictEntry.mk (PyData.keyHash P (Str.ofString "CARRIAGE")) (Value.str (Str.ofString "CARRIAGE") 203) (Value.int 13 202), DictEntry.mk (PyData.keyHash P (Str.ofString "HEX_FIGURES")) (Value.str (Str.ofString "HEX_FIGURES") 205) (Value.bytes #[48, 49, 50, 51, 52, 53, 54, 55, 56, 57, 65, 66, 67, 68, 69, 70] 204), DictEntry.mk (PyData.keyHash P (Str.ofString "hex_pair")) (Value.str (Str.ofString "hex_pair") 212) (Value.ref 28), DictEntry.mk (PyData.keyHash P (Str.ofString "lone_brackets")) (Value.str (Str.ofString "lone_brackets") 222) (Value.ref 35), DictEntry.mk (PyData.keyHash P (Str.ofString "literal_octets")) (Value.str (Str.ofString "literal_octets") 233) (Value.ref 42), DictEntry.mk (PyData.keyHash P (Str.ofString "hex_octets")) (Value.str (Str.ofString "hex_octets") 242) (Value.ref 49), DictEntry.mk (PyData.keyHash P (Str.ofString "string_octets")) (Value.str (Str.ofString "string_octets") 252) (Value.ref 56), DictEntry.mk (PyData.keyHash P (Str.ofString "WHITE")) (Value.str (Str.ofString "WHITE") 261) (Value.ref 57), DictEntry.mk (PyData.keyHash P (Str.ofString "DELIMITERS")) (Value.str (Str.ofString "DELIMITERS") 272) (Value.ref 58), DictEntry.mk (PyData.keyHash P (Str.ofString "LINE_FEED")) (Value.str (Str.ofString "LINE_FEED") 274) (Value.int 10 273), DictEntry.mk (PyData.keyHash P (Str.ofString "RETURN")) (Value.str (Str.ofString "RETURN") 276) (Value.int 13 275), DictEntry.mk (PyData.keyHash P (Str.ofString "COMMENT")) (Value.str (Str.ofString "COMMENT") 278) (Value.int 37 277), DictEntry.mk (PyData.keyHash P (Str.ofString "MOST_FIGURES_cursor")) (Value.str (Str.ofString "MOST_FIGURES_cursor") 280) (Value.int 20 279), DictEntry.mk (PyData.keyHash P (Str.ofString "is_white")) (Value.str (Str.ofString "is_white") 287) (Value.ref 65), DictEntry.mk (PyData.keyHash P (Str.ofString "is_regular")) (Value.str (Str.ofString "is_regular") 294) (Value.ref 72), DictEntry.mk (PyData.keyHash P (Str.ofString "is_figure")) (Value.str (Str.ofString "is_figure") 301) (Value.ref 79), DictEntry.mk (PyData.keyHash P (Str.ofString "Cursor")) (Value.str (Str.ofString "Cursor") 434) (Value.ref 182), DictEntry.mk (PyData.keyHash P (Str.ofString "PaperError")) (Value.str (Str.ofString "PaperError") 476) (Value.ref 211), DictEntry.mk (PyData.keyHash P (Str.ofString "SyntaxFault")) (Value.str (Str.ofString "SyntaxFault") 492) (Value.ref 224), DictEntry.mk (PyData.keyHash P (Str.ofString "MOST_FIGURES_decimals")) (Value.str (Str.ofString "MOST_FIGURES_decimals") 496) (Value.int 40 495), DictEntry.mk (PyData.keyHash P (Str.ofString "PLUS")) (Value.str (Str.ofString "PLUS") 498) (Value.int 43 497), DictEntry.mk (PyData.keyHash P (Str.ofString "MINUS")) (Value.str (Str.ofString "MINUS") 500) (Value.int 45 499), DictEntry.mk (PyData.keyHash P (Str.ofString "POINT")) (Value.str (Str.ofString "POINT") 502) (Value.int 46 501), DictEntry.mk (PyData.keyHash P (Str.ofString "ZERO")) (Value.str (Str.ofString "ZERO") 504) (Value.int 48 503), DictEntry.mk (PyData.keyHash P (Str.ofString "Decimal")) (Value.str (Str.ofString "Decimal") 618) (Value.ref 320)] 38) #[]
noncomputable def mo32_12 (_P : Params) : Obj := Obj.mk Value.none none (Data.fields #[Value.int 1 0, Value.int 0 0, Value.ref 20, Value.int 10 0, Value.int 0 0, Value.ref 27, Value.int 12 0, Value.int 0 0, Value.ref 34, Value.int 26 0, Value.int 0 0, Value.ref 41, Value.int 39 0, Value.int 0 0, Value.ref 48, Value.int 45 0, Value.int 0 0, Value.ref 55, Value.int 58 0, Value.int 0 0, Value.ref 64, Value.int 60 0, Value.int 0 0, Value.ref 71, Value.int 62 0, Value.int 0 0, Value.ref 78, Value.int 64 0, Value.int 0 0, Value.ref 85, Value.int 141 0, Value.int 0 0, Value.ref 192, Value.int 150 0, Value.int 0 0, Value.ref 220, Value.int 158 0, Value.int 0 0, Value.ref 232]) #[]
noncomputable def mo32_188 (_P : Params) : Obj := Obj.mk (Value.type "builtin_function_or_method") none (Data.fields #[Value.builtin "type.__prepare__", Value.type "type"]) #[]
noncomputable def mo32_189 (P : Params) : Obj := Obj.mk (Value.type "dict") none (Data.dict #[DictEntry.mk (PyData.keyHash P (Str.ofString "__module__")) (Value.str (Str.ofString "__module__") 444) (Value.str (Str.ofString "paperhold.errors") 435), DictEntry.mk (PyData.keyHash P (Str.ofString "__qualname__")) (Value.str (Str.ofString "__qualname__") 446) (Value.str (Str.ofString "PaperError") 445), DictEntry.mk (PyData.keyHash P (Str.ofString "__firstlineno__")) (Value.str (Str.ofString "__firstlineno__") 448) (Value.int 141 447), DictEntry.mk (PyData.keyHash P (Str.ofString "__init__")) (Value.str (Str.ofString "__init__") 459) (Value.ref 201), DictEntry.mk (PyData.keyHash P (Str.ofString "told")) (Value.str (Str.ofString "told") 466) (Value.ref 208), DictEntry.mk (PyData.keyHash P (Str.ofString "__static_attributes__")) (Value.str (Str.ofString "__static_attributes__") 469) (Value.ref 209)] 6) #[]
noncomputable def mo32_190 (_P : Params) : Obj := Obj.mk (Value.type "tuple") none (Data.seq #[]) #[]
noncomputable def mo32_191 (_P : Params) : Obj := Obj.mk Value.none none (Data.fields #[Value.int 143 0, Value.int 4 0, Value.ref 200, Value.int 148 0, Value.int 4 0, Value.ref 207]) #[]
noncomputable def mo32_192 (_P : Params) : Obj := Obj.mk (Value.type "code") none (Data.fields #[Value.str (Str.ofString "PaperError") 439, Value.str (Str.ofString "PaperError") 440, Value.str (Str.ofString "/claim/cut.py") 441, Value.int 141 0, Value.int 0 0, Value.int 0 0, Value.int 0 0, Value.int 0 0, Value.ref 190, Value.bool false, Value.int 181 0, Value.ref 191, Value.none, Value.none, Value.none, Value.none, Value.int 442 0, Value.int 141 0, Value.str (Str.ofString "/claim/cut.py") 443]) #[]
noncomputable def mo32_193 (_P : Params) : Obj := Obj.mk (Value.type "frame") none Data.plain #[some (Value.ref 192), some (Value.ref 3), some (Value.ref 189), none, some (Value.str (Str.ofString "paperhold.errors") 435), none, some (Value.ref 0)]
noncomputable def mo32_196 (_P : Params) : Obj := Obj.mk Value.none none (Data.fields #[]) #[]
noncomputable def mo32_203 (_P : Params) : Obj := Obj.mk Value.none none (Data.fields #[]) #[]
noncomputable def mo32_213 (_P : Params) : Obj := Obj.mk (Value.type "super") none (Data.fields #[Value.ref 211, Value.ref 211, Value.ref 211]) #[]
noncomputable def mo32_214 (_P : Params) : Obj := Obj.mk (Value.type "builtin_function_or_method") none (Data.fields #[Value.builtin "object.__init_subclass__", Value.ref 211]) #[]
noncomputable def mo32_216 (_P : Params) : Obj := Obj.mk (Value.type "builtin_function_or_method") none (Data.fields #[Value.builtin "type.__prepare__", Value.type "type"]) #[]
noncomputable def mo32_217 (P : Params) : Obj := Obj.mk (Value.type "dict") none (Data.dict #[DictEntry.mk (PyData.keyHash P (Str.ofString "__module__")) (Value.str (Str.ofString "__module__") 484) (Value.str (Str.ofString "paperhold.errors") 435), DictEntry.mk (PyData.keyHash P (Str.ofString "__qualname__")) (Value.str (Str.ofString "__qualname__") 486) (Value.str (Str.ofString "SyntaxFault") 485), DictEntry.mk (PyData.keyHash P (Str.ofString "__firstlineno__")) (Value.str (Str.ofString "__firstlineno__") 488) (Value.int 150 487), DictEntry.mk (PyData.keyHash P (Str.ofString "__static_attributes__")) (Value.str (Str.ofString "__static_attributes__") 489) (Value.ref 222)] 4) #[]
noncomputable def mo32_218 (_P : Params) : Obj := Obj.mk (Value.type "tuple") none (Data.seq #[]) #[]
noncomputable def mo32_219 (_P : Params) : Obj := Obj.mk Value.none none (Data.fields #[]) #[]
noncomputable def mo32_220 (_P : Params) : Obj := Obj.mk (Value.type "code") none (Data.fields #[Value.str (Str.ofString "SyntaxFault") 479, Value.str (Str.ofString "SyntaxFault") 480, Value.str (Str.ofString "/claim/cut.py") 481, Value.int 150 0, Value.int 0 0, Value.int 0 0, Value.int 0 0, Value.int 0 0, Value.ref 218, Value.bool false, Value.int 181 0, Value.ref 219, Value.none, Value.none, Value.none, Value.none, Value.int 482 0, Value.int 150 0, Value.str (Str.ofString "/claim/cut.py") 483]) #[]
noncomputable def mo32_221 (_P : Params) : Obj := Obj.mk (Value.type "frame") none Data.plain #[some (Value.ref 220), some (Value.ref 3), some (Value.ref 217), none, some (Value.str (Str.ofString "paperhold.errors") 435), none, some (Value.ref 0)]
noncomputable def mo32_225 (_P : Params) : Obj := Obj.mk (Value.type "super") none (Data.fields #[Value.ref 224, Value.ref 224, Value.ref 224]) #[]
noncomputable def mo32_226 (_P : Params) : Obj := Obj.mk (Value.type "builtin_function_or_method") none (Data.fields #[Value.builtin "object.__init_subclass__", Value.ref 224]) #[]
noncomputable def mo32_227 (_P : Params) : Obj := Obj.mk (Value.type "tuple") none (Data.seq #[]) #[]
noncomputable def mo32_228 (_P : Params) : Obj := Obj.mk (Value.type "builtin_function_or_method") none (Data.fields #[Value.builtin "type.__prepare__", Value.type "type"]) #[]
noncomputable def mo32_229 (P : Params) : Obj := Obj.mk (Value.type "dict") none (Data.dict #[DictEntry.mk (PyData.keyHash P (Str.ofString "__module__")) (Value.str (Str.ofString "__module__") 512) (Value.str (Str.ofString "paperhold.decimals") 493), DictEntry.mk (PyData.keyHash P (Str.ofString "__qualname__")) (Value.str (Str.ofString "__qualname__") 514) (Value.str (Str.ofString "Decimal") 513), DictEntry.mk (PyData.keyHash P (Str.ofString "__firstlineno__")) (Value.str (Str.ofString "__firstlineno__") 516) (Value.int 158 515), DictEntry.mk (PyData.keyHash P (Str.ofString "__init__")) (Value.str (Str.ofString "__init__") 525) (Value.ref 240), DictEntry.mk (PyData.keyHash P (Str.ofString "plus")) (Value.str (Str.ofString "plus") 533) (Value.ref 247), DictEntry.mk (PyData.keyHash P (Str.ofString "minus")) (Value.str (Str.ofString "minus") 541) (Value.ref 254), DictEntry.mk (PyData.keyHash P (Str.ofString "times")) (Value.str (Str.ofString "times") 549) (Value.ref 261), DictEntry.mk (PyData.keyHash P (Str.ofString "negated")) (Value.str (Str.ofString "negated") 556) (Value.ref 268), DictEntry.mk (PyData.keyHash P (Str.ofString "compared")) (Value.str (Str.ofString "compared") 564) (Value.ref 275), DictEntry.mk (PyData.keyHash P (Str.ofString "is_whole")) (Value.str (Str.ofString "is_whole") 571) (Value.ref 282), DictEntry.mk (PyData.keyHash P (Str.ofString "floor")) (Value.str (Str.ofString "floor") 578) (Value.ref 289), DictEntry.mk (PyData.keyHash P (Str.ofString "rounded")) (Value.str (Str.ofString "rounded") 586) (Value.ref 296), DictEntry.mk (PyData.keyHash P (Str.ofString "told")) (Value.str (Str.ofString "told") 593) (Value.ref 303), DictEntry.mk (PyData.keyHash P (Str.ofString "text")) (Value.str (Str.ofString "text") 601) (Value.ref 310), DictEntry.mk (PyData.keyHash P (Str.ofString "least_text")) (Value.str (Str.ofString "least_text") 608) (Value.ref 317), DictEntry.mk (PyData.keyHash P (Str.ofString "__static_attributes__")) (Value.str (Str.ofString "__static_attributes__") 611) (Value.ref 318)] 16) #[]
noncomputable def mo32_230 (_P : Params) : Obj := Obj.mk (Value.type "tuple") none (Data.seq #[]) #[]
noncomputable def mo32_231 (_P : Params) : Obj := Obj.mk Value.none none (Data.fields #[Value.int 160 0, Value.int 4 0, Value.ref 239, Value.int 167 0, Value.int 4 0, Value.ref 246, Value.int 170 0, Value.int 4 0, Value.ref 253, Value.int 173 0, Value.int 4 0, Value.ref 260, Value.int 176 0, Value.int 4 0, Value.ref 267, Value.int 179 0, Value.int 4 0, Value.ref 274, Value.int 182 0, Value.int 4 0, Value.ref 281, Value.int 185 0, Value.int 4 0, Value.ref 288, Value.int 188 0, Value.int 4 0, Value.ref 295, Value.int 193 0, Value.int 4 0, Value.ref 302, Value.int 196 0, Value.int 4 0, Value.ref 309, Value.int 203 0, Value.int 4 0, Value.ref 316]) #[]
noncomputable def mo32_232 (_P : Params) : Obj := Obj.mk (Value.type "code") none (Data.fields #[Value.str (Str.ofString "Decimal") 507, Value.str (Str.ofString "Decimal") 508, Value.str (Str.ofString "/claim/cut.py") 509, Value.int 158 0, Value.int 0 0, Value.int 0 0, Value.int 0 0, Value.int 0 0, Value.ref 230, Value.bool false, Value.int 181 0, Value.ref 231, Value.none, Value.none, Value.none, Value.none, Value.int 510 0, Value.int 158 0, Value.str (Str.ofString "/claim/cut.py") 511]) #[]
noncomputable def mo32_233 (_P : Params) : Obj := Obj.mk (Value.type "frame") none Data.plain #[some (Value.ref 232), some (Value.ref 3), some (Value.ref 229), none, some (Value.str (Str.ofString "paperhold.decimals") 493), none, some (Value.ref 0)]
noncomputable def mo32_235 (_P : Params) : Obj := Obj.mk Value.none none (Data.fields #[]) #[]
noncomputable def mo32_242 (_P : Params) : Obj := Obj.mk Value.none none (Data.fields #[]) #[]
noncomputable def mo32_249 (_P : Params) : Obj := Obj.mk Value.none none (Data.fields #[]) #[]
noncomputable def mo32_256 (_P : Params) : Obj := Obj.mk Value.none none (Data.fields #[]) #[]
noncomputable def mo32_263 (_P : Params) : Obj := Obj.mk Value.none none (Data.fields #[]) #[]
noncomputable def mo32_270 (_P : Params) : Obj := Obj.mk Value.none none (Data.fields #[]) #[]
noncomputable def mo32_277 (_P : Params) : Obj := Obj.mk Value.none none (Data.fields #[]) #[]
noncomputable def mo32_284 (_P : Params) : Obj := Obj.mk Value.none none (Data.fields #[]) #[]
noncomputable def mo32_291 (_P : Params) : Obj := Obj.mk Value.none none (Data.fields #[]) #[]
noncomputable def mo32_298 (_P : Params) : Obj := Obj.mk Value.none none (Data.fields #[]) #[]
noncomputable def mo32_305 (_P : Params) : Obj := Obj.mk Value.none none (Data.fields #[]) #[]
noncomputable def mo32_312 (_P : Params) : Obj := Obj.mk Value.none none (Data.fields #[]) #[]
noncomputable def mo32_323 (_P : Params) : Obj := Obj.mk (Value.type "super") none (Data.fields #[Value.ref 320, Value.ref 320, Value.ref 320]) #[]
noncomputable def mo32_324 (_P : Params) : Obj := Obj.mk (Value.type "builtin_function_or_method") none (Data.fields #[Value.builtin "object.__init_subclass__", Value.ref 320]) #[]
noncomputable def mo47_3 (P : Params) : Obj := Obj.mk (Value.type "dict") none (Data.dict #[DictEntry.mk (PyData.keyHash P (Str.ofString "__name__")) (Value.str (Str.ofString "__name__") 165) (Value.str (Str.ofString "paperhold.lexer") 654), DictEntry.mk (PyData.keyHash P (Str.ofString "__doc__")) (Value.str (Str.ofString "__doc__") 166) Value.none, DictEntry.mk (PyData.keyHash P (Str.ofString "__package__")) (Value.str (Str.ofString "__package__") 167) Value.none, DictEntry.mk (PyData.keyHash P (Str.ofString "__loader__")) (Value.str (Str.ofString "__loader__") 168) (Value.builtin "__main__.__loader__#opaque"), DictEntry.mk (PyData.keyHash P (Str.ofString "__spec__")) (Value.str (Str.ofString "__spec__") 169) Value.none, DictEntry.mk (PyData.keyHash P (Str.ofString "__annotations__")) (Value.str (Str.ofString "__annotations__") 170) (Value.ref 6), DictEntry.mk (PyData.keyHash P (Str.ofString "__builtins__")) (Value.str (Str.ofString "__builtins__") 171) (Value.ref 4), DictEntry.mk (PyData.keyHash P (Str.ofString "__file__")) (Value.str (Str.ofString "__file__") 173) (Value.str (Str.ofString "/claim/cut.py") 172), DictEntry.mk (PyData.keyHash P (Str.ofString "__cached__")) (Value.str (Str.ofString "__cached__") 174) Value.none, DictEntry.mk (PyData.keyHash P (Str.ofString "_wall")) (Value.str (Str.ofString "_wall") 193) (Value.ref 21), DictEntry.mk (PyData.keyHash P (Str.ofString "BACKSLASH_writer")) (Value.str (Str.ofString "BACKSLASH_writer") 197) (Value.int 92 196), DictEntry.mk (PyData.keyHash P (Str.ofString "OPEN_BRACKET")) (Value.str (Str.ofString "OPEN_BRACKET") 199) (Value.int 40 198), DictEntry.mk (PyData.keyHash P (Str.ofString "CLOSE_BRACKET")) (Value.str (Str.ofString "CLOSE_BRACKET") 201) (Value.int 41 200), DictEntry.mk (PyData.keyHash P (Str.ofString "CARRIAGE")) (Value.str (Str.ofString "CARRIAGE") 203) (Value.int 13 202), DictEntry.mk (PyData.keyHash P (Str.ofString "HEX_FIGURES")) (Value.str (Str.ofString "HEX_FIGURES") 205) (Value.bytes #[48, 49, 50, 51, 52, 53, 54, 55, 56, 57, 65, 66, 67, 68, 69, 70] 204), DictEntry.mk (PyData.keyHash P (Str.ofString "hex_pair")) (Value.str (Str.ofString "hex_pair") 212) (Value.ref 28), DictEntry.mk (PyData.keyHash P (Str.ofString "lone_brackets")) (Value.str (Str.ofString "lone_brackets") 222) (Value.ref 35), DictEntry.mk (PyData.keyHash P (Str.ofString "literal_octets")) (Value.str (Str.ofString "literal_octets") 233) (Value.ref 42), DictEntry.mk (PyData.keyHash P (Str.ofString "hex_octets")) (Value.str (Str.ofString "hex_octets") 242) (Value.ref 49), DictEntry.mk (PyData.keyHash P (Str.ofString "string_octets")) (Value.str (Str.ofString "string_octets") 252) (Value.ref 56), DictEntry.mk (PyData.keyHash P (Str.ofString "WHITE")) (Value.str (Str.ofString "WHITE") 261) (Value.ref 57), DictEntry.mk (PyData.keyHash P (Str.ofString "DELIMITERS")) (Value.str (Str.ofString "DELIMITERS") 272) (Value.ref 58), DictEntry.mk (PyData.keyHash P (Str.ofString "LINE_FEED")) (Value.str (Str.ofString "LINE_FEED") 274) (Value.int 10 273), DictEntry.mk (PyData.keyHash P (Str.ofString "RETURN")) (Value.str (Str.ofString "RETURN") 276) (Value.int 13 275), DictEntry.mk (PyData.keyHash P (Str.ofString "COMMENT")) (Value.str (Str.ofString "COMMENT") 278) (Value.int 37 277), DictEntry.mk (PyData.keyHash P (Str.ofString "MOST_FIGURES_cursor")) (Value.str (Str.ofString "MOST_FIGURES_cursor") 280) (Value.int 20 279), DictEntry.mk (PyData.keyHash P (Str.ofString "is_white")) (Value.str (Str.ofString "is_white") 287) (Value.ref 65), DictEntry.mk (PyData.keyHash P (Str.ofString "is_regular")) (Value.str (Str.ofString "is_regular") 294) (Value.ref 72), DictEntry.mk (PyData.keyHash P (Str.ofString "is_figure")) (Value.str (Str.ofString "is_figure") 301) (Value.ref 79), DictEntry.mk (PyData.keyHash P (Str.ofString "Cursor")) (Value.str (Str.ofString "Cursor") 434) (Value.ref 182), DictEntry.mk (PyData.keyHash P (Str.ofString "PaperError")) (Value.str (Str.ofString "PaperError") 476) (Value.ref 211), DictEntry.mk (PyData.keyHash P (Str.ofString "SyntaxFault")) (Value.str (Str.ofString "SyntaxFault") 492) (Value.ref 224), DictEntry.mk (PyData.keyHash P (Str.ofString "MOST_FIGURES_decimals")) (Value.str (Str.ofString "MOST_FIGURES_decimals") 496) (Value.int 40 495), DictEntry.mk (PyData.keyHash P (Str.ofString "PLUS")) (Value.str (Str.ofString "PLUS") 498) (Value.int 43 497), DictEntry.mk (PyData.keyHash P (Str.ofString "MINUS")) (Value.str (Str.ofString "MINUS") 500) (Value.int 45 499), DictEntry.mk (PyData.keyHash P (Str.ofString "POINT")) (Value.str (Str.ofString "POINT") 502) (Value.int 46 501), DictEntry.mk (PyData.keyHash P (Str.ofString "ZERO")) (Value.str (Str.ofString "ZERO") 504) (Value.int 48 503), DictEntry.mk (PyData.keyHash P (Str.ofString "Decimal")) (Value.str (Str.ofString "Decimal") 618) (Value.ref 320), DictEntry.mk (PyData.keyHash P (Str.ofString "sign_text")) (Value.str (Str.ofString "sign_text") 625) (Value.ref 331), DictEntry.mk (PyData.keyHash P (Str.ofString "sign_of")) (Value.str (Str.ofString "sign_of") 632) (Value.ref 338), DictEntry.mk (PyData.keyHash P (Str.ofString "rounded_quotient")) (Value.str (Str.ofString "rounded_quotient") 641) (Value.ref 345), DictEntry.mk (PyData.keyHash P (Str.ofString "read_decimal")) (Value.str (Str.ofString "read_decimal") 653) (Value.ref 352), DictEntry.mk (PyData.keyHash P (Str.ofString "PAREN")) (Value.str (Str.ofString "PAREN") 657) (Value.int 40 656), DictEntry.mk (PyData.keyHash P (Str.ofString "CLOSE_PAREN")) (Value.str (Str.ofString "CLOSE_PAREN") 659) (Value.int 41 658), DictEntry.mk (PyData.keyHash P (Str.ofString "LESS")) (Value.str (Str.ofString "LESS") 661) (Value.int 60 660), DictEntry.mk (PyData.keyHash P (Str.ofString "GREATER")) (Value.str (Str.ofString "GREATER") 663) (Value.int 62 662), DictEntry.mk (PyData.keyHash P (Str.ofString "SLASH")) (Value.str (Str.ofString "SLASH") 665) (Value.int 47 664), DictEntry.mk (PyData.keyHash P (Str.ofString "BACKSLASH_lexer")) (Value.str (Str.ofString "BACKSLASH_lexer") 667) (Value.int 92 666), DictEntry.mk (PyData.keyHash P (Str.ofString "HASH")) (Value.str (Str.ofString "HASH") 669) (Value.int 35 668), DictEntry.mk (PyData.keyHash P (Str.ofString "SIGNS")) (Value.str (Str.ofString "SIGNS") 674) (Value.ref 353), DictEntry.mk (PyData.keyHash P (Str.ofString "hex_worth")) (Value.str (Str.ofString "hex_worth") 681) (Value.ref 360), DictEntry.mk (PyData.keyHash P (Str.ofString "plain_escape")) (Value.str (Str.ofString "plain_escape") 688) (Value.ref 367)] 52) #[]
noncomputable def mo47_12 (_P : Params) : Obj := Obj.mk Value.none none (Data.fields #[Value.int 1 0, Value.int 0 0, Value.ref 20, Value.int 10 0, Value.int 0 0, Value.ref 27, Value.int 12 0, Value.int 0 0, Value.ref 34, Value.int 26 0, Value.int 0 0, Value.ref 41, Value.int 39 0, Value.int 0 0, Value.ref 48, Value.int 45 0, Value.int 0 0, Value.ref 55, Value.int 58 0, Value.int 0 0, Value.ref 64, Value.int 60 0, Value.int 0 0, Value.ref 71, Value.int 62 0, Value.int 0 0, Value.ref 78, Value.int 64 0, Value.int 0 0, Value.ref 85, Value.int 141 0, Value.int 0 0, Value.ref 192, Value.int 150 0, Value.int 0 0, Value.ref 220, Value.int 158 0, Value.int 0 0, Value.ref 232, Value.int 205 0, Value.int 0 0, Value.ref 330, Value.int 207 0, Value.int 0 0, Value.ref 337, Value.int 211 0, Value.int 0 0, Value.ref 344, Value.int 214 0, Value.int 0 0, Value.ref 351, Value.int 245 0, Value.int 0 0, Value.ref 359, Value.int 253 0, Value.int 0 0, Value.ref 366]) #[]
noncomputable def mo47_326 (_P : Params) : Obj := Obj.mk Value.none none (Data.fields #[]) #[]
noncomputable def mo47_333 (_P : Params) : Obj := Obj.mk Value.none none (Data.fields #[]) #[]
noncomputable def mo47_340 (_P : Params) : Obj := Obj.mk Value.none none (Data.fields #[]) #[]
noncomputable def mo47_347 (_P : Params) : Obj := Obj.mk Value.none none (Data.fields #[]) #[]
noncomputable def mo47_355 (_P : Params) : Obj := Obj.mk Value.none none (Data.fields #[]) #[]
noncomputable def mo47_362 (_P : Params) : Obj := Obj.mk Value.none none (Data.fields #[]) #[]
noncomputable def mo56_3 (P : Params) : Obj := Obj.mk (Value.type "dict") none (Data.dict #[DictEntry.mk (PyData.keyHash P (Str.ofString "__name__")) (Value.str (Str.ofString "__name__") 165) (Value.str (Str.ofString "paperhold.objects") 767), DictEntry.mk (PyData.keyHash P (Str.ofString "__doc__")) (Value.str (Str.ofString "__doc__") 166) Value.none, DictEntry.mk (PyData.keyHash P (Str.ofString "__package__")) (Value.str (Str.ofString "__package__") 167) Value.none, DictEntry.mk (PyData.keyHash P (Str.ofString "__loader__")) (Value.str (Str.ofString "__loader__") 168) (Value.builtin "__main__.__loader__#opaque"), DictEntry.mk (PyData.keyHash P (Str.ofString "__spec__")) (Value.str (Str.ofString "__spec__") 169) Value.none, DictEntry.mk (PyData.keyHash P (Str.ofString "__annotations__")) (Value.str (Str.ofString "__annotations__") 170) (Value.ref 6), DictEntry.mk (PyData.keyHash P (Str.ofString "__builtins__")) (Value.str (Str.ofString "__builtins__") 171) (Value.ref 4), DictEntry.mk (PyData.keyHash P (Str.ofString "__file__")) (Value.str (Str.ofString "__file__") 173) (Value.str (Str.ofString "/claim/cut.py") 172), DictEntry.mk (PyData.keyHash P (Str.ofString "__cached__")) (Value.str (Str.ofString "__cached__") 174) Value.none, DictEntry.mk (PyData.keyHash P (Str.ofString "_wall")) (Value.str (Str.ofString "_wall") 193) (Value.ref 21), DictEntry.mk (PyData.keyHash P (Str.ofString "BACKSLASH_writer")) (Value.str (Str.ofString "BACKSLASH_writer") 197) (Value.int 92 196), DictEntry.mk (PyData.keyHash P (Str.ofString "OPEN_BRACKET")) (Value.str (Str.ofString "OPEN_BRACKET") 199) (Value.int 40 198), DictEntry.mk (PyData.keyHash P (Str.ofString "CLOSE_BRACKET")) (Value.str (Str.ofString "CLOSE_BRACKET") 201) (Value.int 41 200), DictEntry.mk (PyData.keyHash P (Str.ofString "CARRIAGE")) (Value.str (Str.ofString "CARRIAGE") 203) (Value.int 13 202), DictEntry.mk (PyData.keyHash P (Str.ofString "HEX_FIGURES")) (Value.str (Str.ofString "HEX_FIGURES") 205) (Value.bytes #[48, 49, 50, 51, 52, 53, 54, 55, 56, 57, 65, 66, 67, 68, 69, 70] 204), DictEntry.mk (PyData.keyHash P (Str.ofString "hex_pair")) (Value.str (Str.ofString "hex_pair") 212) (Value.ref 28), DictEntry.mk (PyData.keyHash P (Str.ofString "lone_brackets")) (Value.str (Str.ofString "lone_brackets") 222) (Value.ref 35), DictEntry.mk (PyData.keyHash P (Str.ofString "literal_octets")) (Value.str (Str.ofString "literal_octets") 233) (Value.ref 42), DictEntry.mk (PyData.keyHash P (Str.ofString "hex_octets")) (Value.str (Str.ofString "hex_octets") 242) (Value.ref 49), DictEntry.mk (PyData.keyHash P (Str.ofString "string_octets")) (Value.str (Str.ofString "string_octets") 252) (Value.ref 56), DictEntry.mk (PyData.keyHash P (Str.ofString "WHITE")) (Value.str (Str.ofString "WHITE") 261) (Value.ref 57), DictEntry.mk (PyData.keyHash P (Str.ofString "DELIMITERS")) (Value.str (Str.ofString "DELIMITERS") 272) (Value.ref 58), DictEntry.mk (PyData.keyHash P (Str.ofString "LINE_FEED")) (Value.str (Str.ofString "LINE_FEED") 274) (Value.int 10 273), DictEntry.mk (PyData.keyHash P (Str.ofString "RETURN")) (Value.str (Str.ofString "RETURN") 276) (Value.int 13 275), DictEntry.mk (PyData.keyHash P (Str.ofString "COMMENT")) (Value.str (Str.ofString "COMMENT") 278) (Value.int 37 277), DictEntry.mk (PyData.keyHash P (Str.ofString "MOST_FIGURES_cursor")) (Value.str (Str.ofString "MOST_FIGURES_cursor") 280) (Value.int 20 279), DictEntry.mk (PyData.keyHash P (Str.ofString "is_white")) (Value.str (Str.ofString "is_white") 287) (Value.ref 65), DictEntry.mk (PyData.keyHash P (Str.ofString "is_regular")) (Value.str (Str.ofString "is_regular") 294) (Value.ref 72), DictEntry.mk (PyData.keyHash P (Str.ofString "is_figure")) (Value.str (Str.ofString "is_figure") 301) (Value.ref 79), DictEntry.mk (PyData.keyHash P (Str.ofString "Cursor")) (Value.str (Str.ofString "Cursor") 434) (Value.ref 182), DictEntry.mk (PyData.keyHash P (Str.ofString "PaperError")) (Value.str (Str.ofString "PaperError") 476) (Value.ref 211), DictEntry.mk (PyData.keyHash P (Str.ofString "SyntaxFault")) (Value.str (Str.ofString "SyntaxFault") 492) (Value.ref 224), DictEntry.mk (PyData.keyHash P (Str.ofString "MOST_FIGURES_decimals")) (Value.str (Str.ofString "MOST_FIGURES_decimals") 496) (Value.int 40 495), DictEntry.mk (PyData.keyHash P (Str.ofString "PLUS")) (Value.str (Str.ofString "PLUS") 498) (Value.int 43 497), DictEntry.mk (PyData.keyHash P (Str.ofString "MINUS")) (Value.str (Str.ofString "MINUS") 500) (Value.int 45 499), DictEntry.mk (PyData.keyHash P (Str.ofString "POINT")) (Value.str (Str.ofString "POINT") 502) (Value.int 46 501), DictEntry.mk (PyData.keyHash P (Str.ofString "ZERO")) (Value.str (Str.ofString "ZERO") 504) (Value.int 48 503), DictEntry.mk (PyData.keyHash P (Str.ofString "Decimal")) (Value.str (Str.ofString "Decimal") 618) (Value.ref 320), DictEntry.mk (PyData.keyHash P (Str.ofString "sign_text")) (Value.str (Str.ofString "sign_text") 625) (Value.ref 331), DictEntry.mk (PyData.keyHash P (Str.ofString "sign_of")) (Value.str (Str.ofString "sign_of") 632) (Value.ref 338), DictEntry.mk (PyData.keyHash P (Str.ofString "rounded_quotient")) (Value.str (Str.ofString "rounded_quotient") 641) (Value.ref 345), DictEntry.mk (PyData.keyHash P (Str.ofString "read_decimal")) (Value.str (Str.ofString "read_decimal") 653) (Value.ref 352), DictEntry.mk (PyData.keyHash P (Str.ofString "PAREN")) (Value.str (Str.ofString "PAREN") 657) (Value.int 40 656), DictEntry.mk (PyData.keyHash P (Str.ofString "CLOSE_PAREN")) (Value.str (Str.ofString "CLOSE_PAREN") 659) (Value.int 41 658), DictEntry.mk (PyData.keyHash P (Str.ofString "LESS")) (Value.str (Str.ofString "LESS") 661) (Value.int 60 660), DictEntry.mk (PyData.keyHash P (Str.ofString "GREATER")) (Value.str (Str.ofString "GREATER") 663) (Value.int 62 662), DictEntry.mk (PyData.keyHash P (Str.ofString "SLASH")) (Value.str (Str.ofString "SLASH") 665) (Value.int 47 664), DictEntry.mk (PyData.keyHash P (Str.ofString "BACKSLASH_lexer")) (Value.str (Str.ofString "BACKSLASH_lexer") 667) (Value.int 92 666), DictEntry.mk (PyData.keyHash P (Str.ofString "HASH")) (Value.str (Str.ofString "HASH") 669) (Value.int 35 668), DictEntry.mk (PyData.keyHash P (Str.ofString "SIGNS")) (Value.str (Str.ofString "SIGNS") 674) (Value.ref 353), DictEntry.mk (PyData.keyHash P (Str.ofString "hex_worth")) (Value.str (Str.ofString "hex_worth") 681) (Value.ref 360), DictEntry.mk (PyData.keyHash P (Str.ofString "plain_escape")) (Value.str (Str.ofString "plain_escape") 688) (Value.ref 367), DictEntry.mk (PyData.keyHash P (Str.ofString "name_text")) (Value.str (Str.ofString "name_text") 703) (Value.ref 375), DictEntry.mk (PyData.keyHash P (Str.ofString "octal")) (Value.str (Str.ofString "octal") 713) (Value.ref 382), DictEntry.mk (PyData.keyHash P (Str.ofString "escaped_codes")) (Value.str (Str.ofString "escaped_codes") 721) (Value.ref 389), DictEntry.mk (PyData.keyHash P (Str.ofString "literal")) (Value.str (Str.ofString "literal") 732) (Value.ref 396), DictEntry.mk (PyData.keyHash P (Str.ofString "hex_string")) (Value.str (Str.ofString "hex_string") 738) (Value.ref 401), DictEntry.mk (PyData.keyHash P (Str.ofString "run_token")) (Value.str (Str.ofString "run_token") 748) (Value.ref 408), DictEntry.mk (PyData.keyHash P (Str.ofString "delimited_token")) (Value.str (Str.ofString "delimited_token") 757) (Value.ref 415), DictEntry.mk (PyData.keyHash P (Str.ofString "next_token")) (Value.str (Str.ofString "next_token") 766) (Value.ref 422)] 60) #[]
noncomputable def mo56_12 (_P : Params) : Obj := Obj.mk Value.none none (Data.fields #[Value.int 1 0, Value.int 0 0, Value.ref 20, Value.int 10 0, Value.int 0 0, Value.ref 27, Value.int 12 0, Value.int 0 0, Value.ref 34, Value.int 26 0, Value.int 0 0, Value.ref 41, Value.int 39 0, Value.int 0 0, Value.ref 48, Value.int 45 0, Value.int 0 0, Value.ref 55, Value.int 58 0, Value.int 0 0, Value.ref 64, Value.int 60 0, Value.int 0 0, Value.ref 71, Value.int 62 0, Value.int 0 0, Value.ref 78, Value.int 64 0, Value.int 0 0, Value.ref 85, Value.int 141 0, Value.int 0 0, Value.ref 192, Value.int 150 0, Value.int 0 0, Value.ref 220, Value.int 158 0, Value.int 0 0, Value.ref 232, Value.int 205 0, Value.int 0 0, Value.ref 330, Value.int 207 0, Value.int 0 0, Value.ref 337, Value.int 211 0, Value.int 0 0, Value.ref 344, Value.int 214 0, Value.int 0 0, Value.ref 351, Value.int 245 0, Value.int 0 0, Value.ref 359, Value.int 253 0, Value.int 0 0, Value.ref 366, Value.int 265 0, Value.int 0 0, Value.ref 374, Value.int 281 0, Value.int 0 0, Value.ref 381, Value.int 288 0, Value.int 0 0, Value.ref 388, Value.int 297 0, Value.int 0 0, Value.ref 395, Value.int 317 0, Value.int 0 0, Value.ref 400, Value.int 332 0, Value.int 0 0, Value.ref 407, Value.int 340 0, Value.int 0 0, Value.ref 414, Value.int 358 0, Value.int 0 0, Value.ref 421]) #[]
noncomputable def mo56_370 (_P : Params) : Obj := Obj.mk Value.none none (Data.fields #[]) #[]
noncomputable def mo56_377 (_P : Params) : Obj := Obj.mk Value.none none (Data.fields #[]) #[]
noncomputable def mo56_384 (_P : Params) : Obj := Obj.mk Value.none none (Data.fields #[]) #[]
noncomputable def mo56_391 (_P : Params) : Obj := Obj.mk Value.none none (Data.fields #[]) #[]
noncomputable def mo56_398 (_P : Params) : Obj := Obj.mk Value.none none (Data.fields #[]) #[]
noncomputable def mo56_403 (_P : Params) : Obj := Obj.mk Value.none none (Data.fields #[]) #[]
noncomputable def mo56_410 (_P : Params) : Obj := Obj.mk Value.none none (Data.fields #[]) #[]
noncomputable def mo56_417 (_P : Params) : Obj := Obj.mk Value.none none (Data.fields #[]) #[]
noncomputable def mo66_12 (_P : Params) : Obj := Obj.mk Value.none none (Data.fields #[Value.int 1 0, Value.int 0 0, Value.ref 20, Value.int 10 0, Value.int 0 0, Value.ref 27, Value.int 12 0, Value.int 0 0, Value.ref 34, Value.int 26 0, Value.int 0 0, Value.ref 41, Value.int 39 0, Value.int 0 0, Value.ref 48, Value.int 45 0, Value.int 0 0, Value.ref 55, Value.int 58 0, Value.int 0 0, Value.ref 64, Value.int 60 0, Value.int 0 0, Value.ref 71, Value.int 62 0, Value.int 0 0, Value.ref 78, Value.int 64 0, Value.int 0 0, Value.ref 85, Value.int 141 0, Value.int 0 0, Value.ref 192, Value.int 150 0, Value.int 0 0, Value.ref 220, Value.int 158 0, Value.int 0 0, Value.ref 232, Value.int 205 0, Value.int 0 0, Value.ref 330, Value.int 207 0, Value.int 0 0, Value.ref 337, Value.int 211 0, Value.int 0 0, Value.ref 344, Value.int 214 0, Value.int 0 0, Value.ref 351, Value.int 245 0, Value.int 0 0, Value.ref 359, Value.int 253 0, Value.int 0 0, Value.ref 366, Value.int 265 0, Value.int 0 0, Value.ref 374, Value.int 281 0, Value.int 0 0, Value.ref 381, Value.int 288 0, Value.int 0 0, Value.ref 388, Value.int 297 0, Value.int 0 0, Value.ref 395, Value.int 317 0, Value.int 0 0, Value.ref 400, Value.int 332 0, Value.int 0 0, Value.ref 407, Value.int 340 0, Value.int 0 0, Value.ref 414, Value.int 358 0, Value.int 0 0, Value.ref 421, Value.int 368 0, Value.int 0 0, Value.ref 428, Value.int 374 0, Value.int 0 0, Value.ref 448, Value.int 376 0, Value.int 0 0, Value.ref 455, Value.int 383 0, Value.int 0 0, Value.ref 462, Value.int 385 0, Value.int 0 0, Value.ref 467, Value.int 387 0, Value.int 0 0, Value.ref 474, Value.int 402 0, Value.int 0 0, Value.ref 481, Value.int 416 0, Value.int 0 0, Value.ref 486, Value.int 435 0, Value.int 0 0, Value.ref 493]) #[]
noncomputable def mo66_423 (_P : Params) : Obj := Obj.mk (Value.type "tuple") none (Data.seq #[]) #[]
noncomputable def mo66_424 (_P : Params) : Obj := Obj.mk (Value.type "builtin_function_or_method") none (Data.fields #[Value.builtin "type.__prepare__", Value.type "type"]) #[]
noncomputable def mo66_425 (P : Params) : Obj := Obj.mk (Value.type "dict") none (Data.dict #[DictEntry.mk (PyData.keyHash P (Str.ofString "__module__")) (Value.str (Str.ofString "__module__") 776) (Value.str (Str.ofString "paperhold.objects") 767), DictEntry.mk (PyData.keyHash P (Str.ofString "__qualname__")) (Value.str (Str.ofString "__qualname__") 778) (Value.str (Str.ofString "String") 777), DictEntry.mk (PyData.keyHash P (Str.ofString "__firstlineno__")) (Value.str (Str.ofString "__firstlineno__") 780) (Value.int 368 779), DictEntry.mk (PyData.keyHash P (Str.ofString "__init__")) (Value.str (Str.ofString "__init__") 789) (Value.ref 437), DictEntry.mk (PyData.keyHash P (Str.ofString "__static_attributes__")) (Value.str (Str.ofString "__static_attributes__") 792) (Value.ref 438)] 5) #[]
noncomputable def mo66_426 (_P : Params) : Obj := Obj.mk (Value.type "tuple") none (Data.seq #[]) #[]
noncomputable def mo66_427 (_P : Params) : Obj := Obj.mk Value.none none (Data.fields #[Value.int 370 0, Value.int 4 0, Value.ref 436]) #[]
noncomputable def mo66_428 (_P : Params) : Obj := Obj.mk (Value.type "code") none (Data.fields #[Value.str (Str.ofString "String") 771, Value.str (Str.ofString "String") 772, Value.str (Str.ofString "/claim/cut.py") 773, Value.int 368 0, Value.int 0 0, Value.int 0 0, Value.int 0 0, Value.int 0 0, Value.ref 426, Value.bool false, Value.int 181 0, Value.ref 427, Value.none, Value.none, Value.none, Value.none, Value.int 774 0, Value.int 368 0, Value.str (Str.ofString "/claim/cut.py") 775]) #[]
noncomputable def mo66_429 (_P : Params) : Obj := Obj.mk (Value.type "frame") none Data.plain #[some (Value.ref 428), some (Value.ref 3), some (Value.ref 425), none, some (Value.str (Str.ofString "paperhold.objects") 767), none, some (Value.ref 0)]
noncomputable def mo66_432 (_P : Params) : Obj := Obj.mk Value.none none (Data.fields #[]) #[]
noncomputable def mo66_443 (_P : Params) : Obj := Obj.mk (Value.type "super") none (Data.fields #[Value.ref 440, Value.ref 440, Value.ref 440]) #[]
noncomputable def mo66_444 (_P : Params) : Obj := Obj.mk (Value.type "builtin_function_or_method") none (Data.fields #[Value.builtin "object.__init_subclass__", Value.ref 440]) #[]
noncomputable def mo66_446 (_P : Params) : Obj := Obj.mk Value.none none (Data.fields #[]) #[]
noncomputable def mo66_451 (_P : Params) : Obj := Obj.mk Value.none none (Data.fields #[]) #[]
noncomputable def mo66_458 (_P : Params) : Obj := Obj.mk Value.none none (Data.fields #[]) #[]
noncomputable def mo66_465 (_P : Params) : Obj := Obj.mk Value.none none (Data.fields #[]) #[]
noncomputable def mo66_470 (_P : Params) : Obj := Obj.mk Value.none none (Data.fields #[]) #[]
noncomputable def mo66_477 (_P : Params) : Obj := Obj.mk Value.none none (Data.fields #[]) #[]
noncomputable def mo66_484 (_P : Params) : Obj := Obj.mk Value.none none (Data.fields #[]) #[]
noncomputable def mo66_489 (_P : Params) : Obj := Obj.mk Value.none none (Data.fields #[]) #[]
noncomputable def cutT22 (P : Params) : BT :=
  (.node (boot_o_0 P) (.node (boot_o_1 P) (.node (mo22_3 P) (.node (boot_o_7 P) (.node (kO P 15) (.node (kO P 31) (.node (tO P 65) (.node (kO P 127) .nil .nil) .nil) (.node (kO P 95) (.node (kO P 159) .nil .nil) .nil)) (.node (tO P 49) (.node (kO P 79) (.node (kO P 143) .nil .nil) .nil) (.node (mo22_111 P) (.node (kO P 175) .nil .nil) .nil))) (.node (mo22_23 P) (.node (kO P 39) (.node (kO P 71) (.node (tO P 137) .nil .nil) .nil) (.node (kO P 103) (.node (mo22_167 P) .nil .nil) .nil)) (.node (kO P 55) (.node (kO P 87) (.node (kO P 151) .nil .nil) .nil) (.node (kO P 119) (.node (kO P 183) .nil .nil) .nil)))) (.node (mo22_11 P) (.node (tO P 21) (.node (kO P 35) (.node (mo22_67 P) (.node (kO P 131) .nil .nil) .nil) (.node (tO P 101) (.node (tO P 165) .nil .nil) .nil)) (.node (mo22_51 P) (.node (mo22_83 P) (.node (kO P 147) .nil .nil) .nil) (.node (kO P 115) (.node (kO P 179) .nil .nil) .nil))) (.node (kO P 27) (.node (kO P 43) (.node (kO P 75) (.node (mo22_139 P) .nil .nil) .nil) (.node (tO P 109) (.node (kO P 171) .nil .nil) .nil)) (.node (kO P 59) (.node (kO P 91) (.node (kO P 155) .nil .nil) .nil) (.node (kO P 123) .nil .nil))))) (.node (boot_o_5 P) (.node (boot_o_9 P) (.node (kO P 17) (.node (tO P 35) (.node (kO P 65) (.node (kO P 129) .nil .nil) .nil) (.node (kO P 97) (.node (kO P 161) .nil .nil) .nil)) (.node (kO P 49) (.node (mo22_81 P) (.node (kO P 145) .nil .nil) .nil) (.node (kO P 113) (.node (tO P 179) .nil .nil) .nil))) (.node (kO P 25) (.node (kO P 41) (.node (kO P 73) (.node (kO P 137) .nil .nil) .nil) (.node (kO P 105) (.node (kO P 169) .nil .nil) .nil)) (.node (kO P 57) (.node (mo22_89 P) (.node (mo22_153 P) .nil .nil) .nil) (.node (tO P 123) (.node (mo22_185 P) .nil .nil) .nil)))) (.node (mo22_13 P) (.node (kO P 21) (.node (mo22_37 P) (.node (kO P 69) (.node (kO P 133) .nil .nil) .nil) (.node (kO P 101) (.node (kO P 165) .nil .nil) .nil)) (.node (kO P 53) (.node (mo22_85 P) (.node (tO P 151) .nil .nil) .nil) (.node (kO P 117) (.node (kO P 181) .nil .nil) .nil))) (.node (kO P 29) (.node (kO P 45) (.node (tO P 79) (.node (kO P 141) .nil .nil) .nil) (.node (kO P 109) (.node (kO P 173) .nil .nil) .nil)) (.node (kO P 61) (.node (kO P 93) (.node (kO P 157) .nil .nil) .nil) (.node (mo22_125 P) .nil .nil)))))) (.node (boot_o_2 P) (.node (boot_o_4 P) (.node (boot_o_8 P) (.node (mo22_16 P) (.node (kO P 32) (.node (kO P 64) (.node (tO P 130) .nil .nil) .nil) (.node (mo22_96 P) (.node (mo22_160 P) .nil .nil) .nil)) (.node (kO P 48) (.node (mo22_80 P) (.node (kO P 144) .nil .nil) .nil) (.node (kO P 112) (.node (kO P 176) .nil .nil) .nil))) (.node (kO P 24) (.node (tO P 42) (.node (kO P 72) (.node (kO P 136) .nil .nil) .nil) (.node (mo22_104 P) (.node (kO P 168) .nil .nil) .nil)) (.node (kO P 56) (.node (kO P 88) (.node (kO P 152) .nil .nil) .nil) (.node (kO P 120) (.node (kO P 184) .nil .nil) .nil)))) (.node (mo22_12 P) (.node (kO P 20) (.node (kO P 36) (.node (kO P 68) (.node (mo22_132 P) .nil .nil) .nil) (.node (kO P 100) (.node (kO P 164) .nil .nil) .nil)) (.node (kO P 52) (.node (mo22_84 P) (.node (kO P 148) .nil .nil) .nil) (.node (kO P 116) (.node (kO P 180) .nil .nil) .nil))) (.node (kO P 28) (.node (mo22_44 P) (.node (kO P 76) (.node (kO P 140) .nil .nil) .nil) (.node (kO P 108) (.node (kO P 172) .nil .nil) .nil)) (.node (mo22_60 P) (.node (tO P 94) (.node (tO P 158) .nil .nil) .nil) (.node (kO P 124) .nil .nil))))) (.node (boot_o_6 P) (.node (boot_o_10 P) (.node (kO P 18) (.node (kO P 34) (.node (kO P 66) (.node (kO P 130) .nil .nil) .nil) (.node (kO P 98) (.node (kO P 162) .nil .nil) .nil)) (.node (kO P 50) (.node (mo22_82 P) (.node (mo22_146 P) .nil .nil) .nil) (.node (tO P 116) (.node (kO P 178) .nil .nil) .nil))) (.node (tO P 28) (.node (kO P 42) (.node (mo22_74 P) (.node (kO P 138) .nil .nil) .nil) (.node (kO P 106) (.node (tO P 172) .nil .nil) .nil)) (.node (kO P 58) (.node (kO P 90) (.node (kO P 154) .nil .nil) .nil) (.node (kO P 122) (.node (mo22_186 P) .nil .nil) .nil)))) (.node (mo22_14 P) (.node (kO P 22) (.node (kO P 38) (.node (tO P 72) (.node (kO P 134) .nil .nil) .nil) (.node (kO P 102) (.node (kO P 166) .nil .nil) .nil)) (.node (tO P 56) (.node (mo22_86 P) (.node (kO P 150) .nil .nil) .nil) (.node (mo22_118 P) (.node (kO P 182) .nil .nil) .nil))) (.node (mo22_30 P) (.node (kO P 46) (.node (kO P 78) (.node (tO P 144) .nil .nil) .nil) (.node (kO P 110) (.node (mo22_174 P) .nil .nil) .nil)) (.node (kO P 62) (.node (kO P 94) (.node (kO P 158) .nil .nil) .nil) (.node (kO P 126) .nil .nil)))))))
noncomputable def cutT32 (P : Params) : BT :=
  (.node (boot_o_0 P) (.node (boot_o_1 P) (.node (mo32_3 P) (.node (boot_o_7 P) (.node (kO P 15) (.node (kO P 31) (.node (tO P 65) (.node (kO P 127) (.node (kO P 255) .nil .nil) .nil) (.node (mo32_191 P) (.node (kO P 319) .nil .nil) .nil)) (.node (kO P 95) (.node (kO P 159) (.node (tO P 289) .nil .nil) .nil) (.node (kO P 223) .nil .nil))) (.node (tO P 49) (.node (kO P 79) (.node (kO P 143) (.node (kO P 271) .nil .nil) .nil) (.node (kO P 207) .nil .nil)) (.node (mo22_111 P) (.node (kO P 175) (.node (kO P 303) .nil .nil) .nil) (.node (kO P 239) .nil .nil)))) (.node (mo22_23 P) (.node (kO P 39) (.node (kO P 71) (.node (tO P 137) (.node (mo32_263 P) .nil .nil) .nil) (.node (tO P 201) .nil .nil)) (.node (kO P 103) (.node (mo22_167 P) (.node (kO P 295) .nil .nil) .nil) (.node (mo32_231 P) .nil .nil))) (.node (kO P 55) (.node (kO P 87) (.node (kO P 151) (.node (kO P 279) .nil .nil) .nil) (.node (kO P 215) .nil .nil)) (.node (kO P 119) (.node (kO P 183) (.node (kO P 311) .nil .nil) .nil) (.node (kO P 247) .nil .nil))))) (.node (mo22_11 P) (.node (tO P 21) (.node (kO P 35) (.node (mo22_67 P) (.node (kO P 131) (.node (tO P 261) .nil .nil) .nil) (.node (kO P 195) (.node (mo32_323 P) .nil .nil) .nil)) (.node (tO P 101) (.node (tO P 165) (.node (mo32_291 P) .nil .nil) .nil) (.node (mo32_227 P) .nil .nil))) (.node (mo22_51 P) (.node (mo22_83 P) (.node (kO P 147) (.node (kO P 275) .nil .nil) .nil) (.node (kO P 211) .nil .nil)) (.node (kO P 115) (.node (kO P 179) (.node (kO P 307) .nil .nil) .nil) (.node (kO P 243) .nil .nil)))) (.node (kO P 27) (.node (kO P 43) (.node (kO P 75) (.node (mo22_139 P) (.node (kO P 267) .nil .nil) .nil) (.node (mo32_203 P) .nil .nil)) (.node (tO P 109) (.node (kO P 171) (.node (kO P 299) .nil .nil) .nil) (.node (mo32_235 P) .nil .nil))) (.node (kO P 59) (.node (kO P 91) (.node (kO P 155) (.node (kO P 283) .nil .nil) .nil) (.node (mo32_219 P) .nil .nil)) (.node (kO P 123) (.node (kO P 187) (.node (tO P 317) .nil .nil) .nil) (.node (kO P 251) .nil .nil)))))) (.node (boot_o_5 P) (.node (boot_o_9 P) (.node (kO P 17) (.node (tO P 35) (.node (kO P 65) (.node (kO P 129) (.node (kO P 257) .nil .nil) .nil) (.node (mo32_193 P) (.node (kO P 321) .nil .nil) .nil)) (.node (kO P 97) (.node (kO P 161) (.node (kO P 289) .nil .nil) .nil) (.node (mo32_225 P) .nil .nil))) (.node (kO P 49) (.node (mo22_81 P) (.node (kO P 145) (.node (tO P 275) .nil .nil) .nil) (.node (kO P 209) .nil .nil)) (.node (kO P 113) (.node (tO P 179) (.node (mo32_305 P) .nil .nil) .nil) (.node (kO P 241) .nil .nil)))) (.node (kO P 25) (.node (kO P 41) (.node (kO P 73) (.node (kO P 137) (.node (kO P 265) .nil .nil) .nil) (.node (kO P 201) .nil .nil)) (.node (kO P 105) (.node (kO P 169) (.node (kO P 297) .nil .nil) .nil) (.node (mo32_233 P) .nil .nil))) (.node (kO P 57) (.node (mo22_89 P) (.node (mo22_153 P) (.node (kO P 281) .nil .nil) .nil) (.node (mo32_217 P) .nil .nil)) (.node (tO P 123) (.node (mo22_185 P) (.node (kO P 313) .nil .nil) .nil) (.node (mo32_249 P) .nil .nil))))) (.node (mo22_13 P) (.node (kO P 21) (.node (mo22_37 P) (.node (kO P 69) (.node (kO P 133) (.node (kO P 261) .nil .nil) .nil) (.node (kO P 197) .nil .nil)) (.node (kO P 101) (.node (kO P 165) (.node (kO P 293) .nil .nil) .nil) (.node (mo32_229 P) .nil .nil))) (.node (kO P 53) (.node (mo22_85 P) (.node (tO P 151) (.node (mo32_277 P) .nil .nil) .nil) (.node (mo32_213 P) .nil .nil)) (.node (kO P 117) (.node (kO P 181) (.node (kO P 309) .nil .nil) .nil) (.node (tO P 247) .nil .nil)))) (.node (kO P 29) (.node (kO P 45) (.node (tO P 79) (.node (kO P 141) (.node (kO P 269) .nil .nil) .nil) (.node (kO P 205) .nil .nil)) (.node (kO P 109) (.node (kO P 173) (.node (tO P 303) .nil .nil) .nil) (.node (kO P 237) .nil .nil))) (.node (kO P 61) (.node (kO P 93) (.node (kO P 157) (.node (kO P 285) .nil .nil) .nil) (.node (mo32_221 P) .nil .nil)) (.node (mo22_125 P) (.node (mo32_189 P) (.node (kO P 317) .nil .nil) .nil) (.node (kO P 253) .nil .nil))))))) (.node (kO P 2) (.node (boot_o_4 P) (.node (boot_o_8 P) (.node (mo22_16 P) (.node (kO P 32) (.node (kO P 64) (.node (tO P 130) (.node (mo32_256 P) .nil .nil) .nil) (.node (mo32_192 P) (.node (kO P 320) .nil .nil) .nil)) (.node (mo22_96 P) (.node (mo22_160 P) (.node (kO P 288) .nil .nil) .nil) (.node (kO P 224) .nil .nil))) (.node (kO P 48) (.node (mo22_80 P) (.node (kO P 144) (.node (kO P 272) .nil .nil) .nil) (.node (kO P 208) .nil .nil)) (.node (kO P 112) (.node (kO P 176) (.node (kO P 304) .nil .nil) .nil) (.node (kO P 240) .nil .nil)))) (.node (kO P 24) (.node (tO P 42) (.node (kO P 72) (.node (kO P 136) (.node (kO P 264) .nil .nil) .nil) (.node (kO P 200) .nil .nil)) (.node (mo22_104 P) (.node (kO P 168) (.node (kO P 296) .nil .nil) .nil) (.node (mo32_232 P) .nil .nil))) (.node (kO P 56) (.node (kO P 88) (.node (kO P 152) (.node (tO P 282) .nil .nil) .nil) (.node (mo32_216 P) .nil .nil)) (.node (kO P 120) (.node (kO P 184) (.node (mo32_312 P) .nil .nil) .nil) (.node (kO P 248) .nil .nil))))) (.node (mo32_12 P) (.node (kO P 20) (.node (kO P 36) (.node (kO P 68) (.node (mo22_132 P) (.node (kO P 260) .nil .nil) .nil) (.node (mo32_196 P) (.node (mo32_324 P) .nil .nil) .nil)) (.node (kO P 100) (.node (kO P 164) (.node (kO P 292) .nil .nil) .nil) (.node (mo32_228 P) .nil .nil))) (.node (kO P 52) (.node (mo22_84 P) (.node (kO P 148) (.node (kO P 276) .nil .nil) .nil) (.node (kO P 212) .nil .nil)) (.node (kO P 116) (.node (kO P 180) (.node (tO P 310) .nil .nil) .nil) (.node (kO P 244) .nil .nil)))) (.node (kO P 28) (.node (mo22_44 P) (.node (kO P 76) (.node (kO P 140) (.node (kO P 268) .nil .nil) .nil) (.node (kO P 204) .nil .nil)) (.node (kO P 108) (.node (kO P 172) (.node (kO P 300) .nil .nil) .nil) (.node (kO P 236) .nil .nil))) (.node (mo22_60 P) (.node (tO P 94) (.node (tO P 158) (.node (mo32_284 P) .nil .nil) .nil) (.node (mo32_220 P) .nil .nil)) (.node (kO P 124) (.node (mo32_188 P) (.node (kO P 316) .nil .nil) .nil) (.node (tO P 254) .nil .nil)))))) (.node (boot_o_6 P) (.node (boot_o_10 P) (.node (kO P 18) (.node (kO P 34) (.node (kO P 66) (.node (kO P 130) (.node (kO P 258) .nil .nil) .nil) (.node (kO P 194) (.node (kO P 322) .nil .nil) .nil)) (.node (kO P 98) (.node (kO P 162) (.node (kO P 290) .nil .nil) .nil) (.node (mo32_226 P) .nil .nil))) (.node (kO P 50) (.node (mo22_82 P) (.node (mo22_146 P) (.node (kO P 274) .nil .nil) .nil) (.node (kO P 210) .nil .nil)) (.node (tO P 116) (.node (kO P 178) (.node (kO P 306) .nil .nil) .nil) (.node (mo32_242 P) .nil .nil)))) (.node (tO P 28) (.node (kO P 42) (.node (mo22_74 P) (.node (kO P 138) (.node (tO P 268) .nil .nil) .nil) (.node (kO P 202) .nil .nil)) (.node (kO P 106) (.node (tO P 172) (.node (mo32_298 P) .nil .nil) .nil) (.node (kO P 234) .nil .nil))) (.node (kO P 58) (.node (kO P 90) (.node (kO P 154) (.node (kO P 282) .nil .nil) .nil) (.node (mo32_218 P) .nil .nil)) (.node (kO P 122) (.node (mo22_186 P) (.node (kO P 314) .nil .nil) .nil) (.node (kO P 250) .nil .nil))))) (.node (mo22_14 P) (.node (kO P 22) (.node (kO P 38) (.node (tO P 72) (.node (kO P 134) (.node (kO P 262) .nil .nil) .nil) (.node (kO P 198) .nil .nil)) (.node (kO P 102) (.node (kO P 166) (.node (tO P 296) .nil .nil) .nil) (.node (mo32_230 P) .nil .nil))) (.node (tO P 56) (.node (mo22_86 P) (.node (kO P 150) (.node (kO P 278) .nil .nil) .nil) (.node (mo32_214 P) .nil .nil)) (.node (mo22_118 P) (.node (kO P 182) (.node (kO P 310) .nil .nil) .nil) (.node (kO P 246) .nil .nil)))) (.node (mo22_30 P) (.node (kO P 46) (.node (kO P 78) (.node (tO P 144) (.node (mo32_270 P) .nil .nil) .nil) (.node (tO P 208) .nil .nil)) (.node (kO P 110) (.node (mo22_174 P) (.node (kO P 302) .nil .nil) .nil) (.node (tO P 240) .nil .nil))) (.node (kO P 62) (.node (kO P 94) (.node (kO P 158) (.node (kO P 286) .nil .nil) .nil) (.node (kO P 222) .nil .nil)) (.node (kO P 126) (.node (mo32_190 P) (.node (kO P 318) .nil .nil) .nil) (.node (kO P 254) .nil .nil))))))))
noncomputable def cutT47 (P : Params) : BT :=
  (.node (boot_o_0 P) (.node (boot_o_1 P) (.node (mo47_3 P) (.node (boot_o_7 P) (.node (kO P 15) (.node (kO P 31) (.node (tO P 65) (.node (kO P 127) (.node (kO P 255) .nil .nil) .nil) (.node (mo32_191 P) (.node (kO P 319) .nil .nil) .nil)) (.node (kO P 95) (.node (kO P 159) (.node (tO P 289) .nil .nil) .nil) (.node (kO P 223) (.node (kO P 351) .nil .nil) .nil))) (.node (tO P 49) (.node (kO P 79) (.node (kO P 143) (.node (kO P 271) .nil .nil) .nil) (.node (kO P 207) (.node (kO P 335) .nil .nil) .nil)) (.node (mo22_111 P) (.node (kO P 175) (.node (kO P 303) .nil .nil) .nil) (.node (kO P 239) (.node (kO P 367) .nil .nil) .nil)))) (.node (mo22_23 P) (.node (kO P 39) (.node (kO P 71) (.node (tO P 137) (.node (mo32_263 P) .nil .nil) .nil) (.node (tO P 201) (.node (kO P 327) .nil .nil) .nil)) (.node (kO P 103) (.node (mo22_167 P) (.node (kO P 295) .nil .nil) .nil) (.node (mo32_231 P) (.node (kO P 359) .nil .nil) .nil))) (.node (kO P 55) (.node (kO P 87) (.node (kO P 151) (.node (kO P 279) .nil .nil) .nil) (.node (kO P 215) (.node (tO P 345) .nil .nil) .nil)) (.node (kO P 119) (.node (kO P 183) (.node (kO P 311) .nil .nil) .nil) (.node (kO P 247) .nil .nil))))) (.node (mo22_11 P) (.node (tO P 21) (.node (kO P 35) (.node (mo22_67 P) (.node (kO P 131) (.node (tO P 261) .nil .nil) .nil) (.node (kO P 195) (.node (mo32_323 P) .nil .nil) .nil)) (.node (tO P 101) (.node (tO P 165) (.node (mo32_291 P) .nil .nil) .nil) (.node (mo32_227 P) (.node (mo47_355 P) .nil .nil) .nil))) (.node (mo22_51 P) (.node (mo22_83 P) (.node (kO P 147) (.node (kO P 275) .nil .nil) .nil) (.node (kO P 211) (.node (kO P 339) .nil .nil) .nil)) (.node (kO P 115) (.node (kO P 179) (.node (kO P 307) .nil .nil) .nil) (.node (kO P 243) .nil .nil)))) (.node (kO P 27) (.node (kO P 43) (.node (kO P 75) (.node (mo22_139 P) (.node (kO P 267) .nil .nil) .nil) (.node (mo32_203 P) (.node (kO P 331) .nil .nil) .nil)) (.node (tO P 109) (.node (kO P 171) (.node (kO P 299) .nil .nil) .nil) (.node (mo32_235 P) (.node (kO P 363) .nil .nil) .nil))) (.node (kO P 59) (.node (kO P 91) (.node (kO P 155) (.node (kO P 283) .nil .nil) .nil) (.node (mo32_219 P) (.node (mo47_347 P) .nil .nil) .nil)) (.node (kO P 123) (.node (kO P 187) (.node (tO P 317) .nil .nil) .nil) (.node (kO P 251) .nil .nil)))))) (.node (boot_o_5 P) (.node (boot_o_9 P) (.node (kO P 17) (.node (tO P 35) (.node (kO P 65) (.node (kO P 129) (.node (kO P 257) .nil .nil) .nil) (.node (mo32_193 P) (.node (kO P 321) .nil .nil) .nil)) (.node (kO P 97) (.node (kO P 161) (.node (kO P 289) .nil .nil) .nil) (.node (mo32_225 P) (.node (kO P 353) .nil .nil) .nil))) (.node (kO P 49) (.node (mo22_81 P) (.node (kO P 145) (.node (tO P 275) .nil .nil) .nil) (.node (kO P 209) (.node (kO P 337) .nil .nil) .nil)) (.node (kO P 113) (.node (tO P 179) (.node (mo32_305 P) .nil .nil) .nil) (.node (kO P 241) .nil .nil)))) (.node (kO P 25) (.node (kO P 41) (.node (kO P 73) (.node (kO P 137) (.node (kO P 265) .nil .nil) .nil) (.node (kO P 201) (.node (tO P 331) .nil .nil) .nil)) (.node (kO P 105) (.node (kO P 169) (.node (kO P 297) .nil .nil) .nil) (.node (mo32_233 P) (.node (kO P 361) .nil .nil) .nil))) (.node (kO P 57) (.node (mo22_89 P) (.node (mo22_153 P) (.node (kO P 281) .nil .nil) .nil) (.node (mo32_217 P) (.node (kO P 345) .nil .nil) .nil)) (.node (tO P 123) (.node (mo22_185 P) (.node (kO P 313) .nil .nil) .nil) (.node (mo32_249 P) .nil .nil))))) (.node (mo22_13 P) (.node (kO P 21) (.node (mo22_37 P) (.node (kO P 69) (.node (kO P 133) (.node (kO P 261) .nil .nil) .nil) (.node (kO P 197) (.node (kO P 325) .nil .nil) .nil)) (.node (kO P 101) (.node (kO P 165) (.node (kO P 293) .nil .nil) .nil) (.node (mo32_229 P) (.node (kO P 357) .nil .nil) .nil))) (.node (kO P 53) (.node (mo22_85 P) (.node (tO P 151) (.node (mo32_277 P) .nil .nil) .nil) (.node (mo32_213 P) (.node (kO P 341) .nil .nil) .nil)) (.node (kO P 117) (.node (kO P 181) (.node (kO P 309) .nil .nil) .nil) (.node (tO P 247) .nil .nil)))) (.node (kO P 29) (.node (kO P 45) (.node (tO P 79) (.node (kO P 141) (.node (kO P 269) .nil .nil) .nil) (.node (kO P 205) (.node (mo47_333 P) .nil .nil) .nil)) (.node (kO P 109) (.node (kO P 173) (.node (tO P 303) .nil .nil) .nil) (.node (kO P 237) (.node (tO P 367) .nil .nil) .nil))) (.node (kO P 61) (.node (kO P 93) (.node (kO P 157) (.node (kO P 285) .nil .nil) .nil) (.node (mo32_221 P) (.node (kO P 349) .nil .nil) .nil)) (.node (mo22_125 P) (.node (mo32_189 P) (.node (kO P 317) .nil .nil) .nil) (.node (kO P 253) .nil .nil))))))) (.node (kO P 2) (.node (boot_o_4 P) (.node (boot_o_8 P) (.node (mo22_16 P) (.node (kO P 32) (.node (kO P 64) (.node (tO P 130) (.node (mo32_256 P) .nil .nil) .nil) (.node (mo32_192 P) (.node (kO P 320) .nil .nil) .nil)) (.node (mo22_96 P) (.node (mo22_160 P) (.node (kO P 288) .nil .nil) .nil) (.node (kO P 224) (.node (kO P 352) .nil .nil) .nil))) (.node (kO P 48) (.node (mo22_80 P) (.node (kO P 144) (.node (kO P 272) .nil .nil) .nil) (.node (kO P 208) (.node (tO P 338) .nil .nil) .nil)) (.node (kO P 112) (.node (kO P 176) (.node (kO P 304) .nil .nil) .nil) (.node (kO P 240) .nil .nil)))) (.node (kO P 24) (.node (tO P 42) (.node (kO P 72) (.node (kO P 136) (.node (kO P 264) .nil .nil) .nil) (.node (kO P 200) (.node (kO P 328) .nil .nil) .nil)) (.node (mo22_104 P) (.node (kO P 168) (.node (kO P 296) .nil .nil) .nil) (.node (mo32_232 P) (.node (kO P 360) .nil .nil) .nil))) (.node (kO P 56) (.node (kO P 88) (.node (kO P 152) (.node (tO P 282) .nil .nil) .nil) (.node (mo32_216 P) (.node (kO P 344) .nil .nil) .nil)) (.node (kO P 120) (.node (kO P 184) (.node (mo32_312 P) .nil .nil) .nil) (.node (kO P 248) .nil .nil))))) (.node (mo47_12 P) (.node (kO P 20) (.node (kO P 36) (.node (kO P 68) (.node (mo22_132 P) (.node (kO P 260) .nil .nil) .nil) (.node (mo32_196 P) (.node (mo32_324 P) .nil .nil) .nil)) (.node (kO P 100) (.node (kO P 164) (.node (kO P 292) .nil .nil) .nil) (.node (mo32_228 P) (.node (kO P 356) .nil .nil) .nil))) (.node (kO P 52) (.node (mo22_84 P) (.node (kO P 148) (.node (kO P 276) .nil .nil) .nil) (.node (kO P 212) (.node (mo47_340 P) .nil .nil) .nil)) (.node (kO P 116) (.node (kO P 180) (.node (tO P 310) .nil .nil) .nil) (.node (kO P 244) .nil .nil)))) (.node (kO P 28) (.node (mo22_44 P) (.node (kO P 76) (.node (kO P 140) (.node (kO P 268) .nil .nil) .nil) (.node (kO P 204) (.node (kO P 332) .nil .nil) .nil)) (.node (kO P 108) (.node (kO P 172) (.node (kO P 300) .nil .nil) .nil) (.node (kO P 236) (.node (kO P 364) .nil .nil) .nil))) (.node (mo22_60 P) (.node (tO P 94) (.node (tO P 158) (.node (mo32_284 P) .nil .nil) .nil) (.node (mo32_220 P) (.node (kO P 348) .nil .nil) .nil)) (.node (kO P 124) (.node (mo32_188 P) (.node (kO P 316) .nil .nil) .nil) (.node (tO P 254) .nil .nil)))))) (.node (boot_o_6 P) (.node (boot_o_10 P) (.node (kO P 18) (.node (kO P 34) (.node (kO P 66) (.node (kO P 130) (.node (kO P 258) .nil .nil) .nil) (.node (kO P 194) (.node (kO P 322) .nil .nil) .nil)) (.node (kO P 98) (.node (kO P 162) (.node (kO P 290) .nil .nil) .nil) (.node (mo32_226 P) (.node (kO P 354) .nil .nil) .nil))) (.node (kO P 50) (.node (mo22_82 P) (.node (mo22_146 P) (.node (kO P 274) .nil .nil) .nil) (.node (kO P 210) (.node (kO P 338) .nil .nil) .nil)) (.node (tO P 116) (.node (kO P 178) (.node (kO P 306) .nil .nil) .nil) (.node (mo32_242 P) .nil .nil)))) (.node (tO P 28) (.node (kO P 42) (.node (mo22_74 P) (.node (kO P 138) (.node (tO P 268) .nil .nil) .nil) (.node (kO P 202) (.node (kO P 330) .nil .nil) .nil)) (.node (kO P 106) (.node (tO P 172) (.node (mo32_298 P) .nil .nil) .nil) (.node (kO P 234) (.node (mo47_362 P) .nil .nil) .nil))) (.node (kO P 58) (.node (kO P 90) (.node (kO P 154) (.node (kO P 282) .nil .nil) .nil) (.node (mo32_218 P) (.node (kO P 346) .nil .nil) .nil)) (.node (kO P 122) (.node (mo22_186 P) (.node (kO P 314) .nil .nil) .nil) (.node (kO P 250) .nil .nil))))) (.node (mo22_14 P) (.node (kO P 22) (.node (kO P 38) (.node (tO P 72) (.node (kO P 134) (.node (kO P 262) .nil .nil) .nil) (.node (kO P 198) (.node (mo47_326 P) .nil .nil) .nil)) (.node (kO P 102) (.node (kO P 166) (.node (tO P 296) .nil .nil) .nil) (.node (mo32_230 P) (.node (tO P 360) .nil .nil) .nil))) (.node (tO P 56) (.node (mo22_86 P) (.node (kO P 150) (.node (kO P 278) .nil .nil) .nil) (.node (mo32_214 P) (.node (kO P 342) .nil .nil) .nil)) (.node (mo22_118 P) (.node (kO P 182) (.node (kO P 310) .nil .nil) .nil) (.node (kO P 246) .nil .nil)))) (.node (mo22_30 P) (.node (kO P 46) (.node (kO P 78) (.node (tO P 144) (.node (mo32_270 P) .nil .nil) .nil) (.node (tO P 208) (.node (kO P 334) .nil .nil) .nil)) (.node (kO P 110) (.node (mo22_174 P) (.node (kO P 302) .nil .nil) .nil) (.node (tO P 240) (.node (kO P 366) .nil .nil) .nil))) (.node (kO P 62) (.node (kO P 94) (.node (kO P 158) (.node (kO P 286) .nil .nil) .nil) (.node (kO P 222) (.node (tO P 352) .nil .nil) .nil)) (.node (kO P 126) (.node (mo32_190 P) (.node (kO P 318) .nil .nil) .nil) (.node (kO P 254) .nil .nil))))))))
noncomputable def cutT56 (P : Params) : BT :=
  (.node (boot_o_0 P) (.node (boot_o_1 P) (.node (mo56_3 P) (.node (boot_o_7 P) (.node (kO P 15) (.node (kO P 31) (.node (tO P 65) (.node (kO P 127) (.node (kO P 255) .nil .nil) (.node (kO P 383) .nil .nil)) (.node (mo32_191 P) (.node (kO P 319) .nil .nil) .nil)) (.node (kO P 95) (.node (kO P 159) (.node (tO P 289) .nil .nil) (.node (kO P 415) .nil .nil)) (.node (kO P 223) (.node (kO P 351) .nil .nil) .nil))) (.node (tO P 49) (.node (kO P 79) (.node (kO P 143) (.node (kO P 271) .nil .nil) (.node (tO P 401) .nil .nil)) (.node (kO P 207) (.node (kO P 335) .nil .nil) .nil)) (.node (mo22_111 P) (.node (kO P 175) (.node (kO P 303) .nil .nil) .nil) (.node (kO P 239) (.node (kO P 367) .nil .nil) .nil)))) (.node (mo22_23 P) (.node (kO P 39) (.node (kO P 71) (.node (tO P 137) (.node (mo32_263 P) .nil .nil) (.node (mo56_391 P) .nil .nil)) (.node (tO P 201) (.node (kO P 327) .nil .nil) .nil)) (.node (kO P 103) (.node (mo22_167 P) (.node (kO P 295) .nil .nil) .nil) (.node (mo32_231 P) (.node (kO P 359) .nil .nil) .nil))) (.node (kO P 55) (.node (kO P 87) (.node (kO P 151) (.node (kO P 279) .nil .nil) (.node (kO P 407) .nil .nil)) (.node (kO P 215) (.node (tO P 345) .nil .nil) .nil)) (.node (kO P 119) (.node (kO P 183) (.node (kO P 311) .nil .nil) .nil) (.node (kO P 247) (.node (kO P 375) .nil .nil) .nil))))) (.node (mo22_11 P) (.node (tO P 21) (.node (kO P 35) (.node (mo22_67 P) (.node (kO P 131) (.node (tO P 261) .nil .nil) (.node (tO P 389) .nil .nil)) (.node (kO P 195) (.node (mo32_323 P) .nil .nil) .nil)) (.node (tO P 101) (.node (tO P 165) (.node (mo32_291 P) .nil .nil) (.node (kO P 419) .nil .nil)) (.node (mo32_227 P) (.node (mo47_355 P) .nil .nil) .nil))) (.node (mo22_51 P) (.node (mo22_83 P) (.node (kO P 147) (.node (kO P 275) .nil .nil) (.node (mo56_403 P) .nil .nil)) (.node (kO P 211) (.node (kO P 339) .nil .nil) .nil)) (.node (kO P 115) (.node (kO P 179) (.node (kO P 307) .nil .nil) .nil) (.node (kO P 243) (.node (kO P 371) .nil .nil) .nil)))) (.node (kO P 27) (.node (kO P 43) (.node (kO P 75) (.node (mo22_139 P) (.node (kO P 267) .nil .nil) (.node (kO P 395) .nil .nil)) (.node (mo32_203 P) (.node (kO P 331) .nil .nil) .nil)) (.node (tO P 109) (.node (kO P 171) (.node (kO P 299) .nil .nil) .nil) (.node (mo32_235 P) (.node (kO P 363) .nil .nil) .nil))) (.node (kO P 59) (.node (kO P 91) (.node (kO P 155) (.node (kO P 283) .nil .nil) (.node (kO P 411) .nil .nil)) (.node (mo32_219 P) (.node (mo47_347 P) .nil .nil) .nil)) (.node (kO P 123) (.node (kO P 187) (.node (tO P 317) .nil .nil) .nil) (.node (kO P 251) (.node (kO P 379) .nil .nil) .nil)))))) (.node (boot_o_5 P) (.node (boot_o_9 P) (.node (kO P 17) (.node (tO P 35) (.node (kO P 65) (.node (kO P 129) (.node (kO P 257) .nil .nil) (.node (kO P 385) .nil .nil)) (.node (mo32_193 P) (.node (kO P 321) .nil .nil) .nil)) (.node (kO P 97) (.node (kO P 161) (.node (kO P 289) .nil .nil) (.node (mo56_417 P) .nil .nil)) (.node (mo32_225 P) (.node (kO P 353) .nil .nil) .nil))) (.node (kO P 49) (.node (mo22_81 P) (.node (kO P 145) (.node (tO P 275) .nil .nil) (.node (kO P 401) .nil .nil)) (.node (kO P 209) (.node (kO P 337) .nil .nil) .nil)) (.node (kO P 113) (.node (tO P 179) (.node (mo32_305 P) .nil .nil) .nil) (.node (kO P 241) (.node (kO P 369) .nil .nil) .nil)))) (.node (kO P 25) (.node (kO P 41) (.node (kO P 73) (.node (kO P 137) (.node (kO P 265) .nil .nil) (.node (kO P 393) .nil .nil)) (.node (kO P 201) (.node (tO P 331) .nil .nil) .nil)) (.node (kO P 105) (.node (kO P 169) (.node (kO P 297) .nil .nil) .nil) (.node (mo32_233 P) (.node (kO P 361) .nil .nil) .nil))) (.node (kO P 57) (.node (mo22_89 P) (.node (mo22_153 P) (.node (kO P 281) .nil .nil) (.node (kO P 409) .nil .nil)) (.node (mo32_217 P) (.node (kO P 345) .nil .nil) .nil)) (.node (tO P 123) (.node (mo22_185 P) (.node (kO P 313) .nil .nil) .nil) (.node (mo32_249 P) (.node (mo56_377 P) .nil .nil) .nil))))) (.node (mo22_13 P) (.node (kO P 21) (.node (mo22_37 P) (.node (kO P 69) (.node (kO P 133) (.node (kO P 261) .nil .nil) (.node (kO P 389) .nil .nil)) (.node (kO P 197) (.node (kO P 325) .nil .nil) .nil)) (.node (kO P 101) (.node (kO P 165) (.node (kO P 293) .nil .nil) (.node (kO P 421) .nil .nil)) (.node (mo32_229 P) (.node (kO P 357) .nil .nil) .nil))) (.node (kO P 53) (.node (mo22_85 P) (.node (tO P 151) (.node (mo32_277 P) .nil .nil) (.node (kO P 405) .nil .nil)) (.node (mo32_213 P) (.node (kO P 341) .nil .nil) .nil)) (.node (kO P 117) (.node (kO P 181) (.node (kO P 309) .nil .nil) .nil) (.node (tO P 247) (.node (tO P 375) .nil .nil) .nil)))) (.node (kO P 29) (.node (kO P 45) (.node (tO P 79) (.node (kO P 141) (.node (kO P 269) .nil .nil) (.node (kO P 397) .nil .nil)) (.node (kO P 205) (.node (mo47_333 P) .nil .nil) .nil)) (.node (kO P 109) (.node (kO P 173) (.node (tO P 303) .nil .nil) .nil) (.node (kO P 237) (.node (tO P 367) .nil .nil) .nil))) (.node (kO P 61) (.node (kO P 93) (.node (kO P 157) (.node (kO P 285) .nil .nil) (.node (tO P 415) .nil .nil)) (.node (mo32_221 P) (.node (kO P 349) .nil .nil) .nil)) (.node (mo22_125 P) (.node (mo32_189 P) (.node (kO P 317) .nil .nil) .nil) (.node (kO P 253) (.node (kO P 381) .nil .nil) .nil))))))) (.node (kO P 2) (.node (boot_o_4 P) (.node (boot_o_8 P) (.node (mo22_16 P) (.node (kO P 32) (.node (kO P 64) (.node (tO P 130) (.node (mo32_256 P) .nil .nil) (.node (mo56_384 P) .nil .nil)) (.node (mo32_192 P) (.node (kO P 320) .nil .nil) .nil)) (.node (mo22_96 P) (.node (mo22_160 P) (.node (kO P 288) .nil .nil) (.node (kO P 416) .nil .nil)) (.node (kO P 224) (.node (kO P 352) .nil .nil) .nil))) (.node (kO P 48) (.node (mo22_80 P) (.node (kO P 144) (.node (kO P 272) .nil .nil) (.node (kO P 400) .nil .nil)) (.node (kO P 208) (.node (tO P 338) .nil .nil) .nil)) (.node (kO P 112) (.node (kO P 176) (.node (kO P 304) .nil .nil) .nil) (.node (kO P 240) (.node (kO P 368) .nil .nil) .nil)))) (.node (kO P 24) (.node (tO P 42) (.node (kO P 72) (.node (kO P 136) (.node (kO P 264) .nil .nil) (.node (kO P 392) .nil .nil)) (.node (kO P 200) (.node (kO P 328) .nil .nil) .nil)) (.node (mo22_104 P) (.node (kO P 168) (.node (kO P 296) .nil .nil) .nil) (.node (mo32_232 P) (.node (kO P 360) .nil .nil) .nil))) (.node (kO P 56) (.node (kO P 88) (.node (kO P 152) (.node (tO P 282) .nil .nil) (.node (kO P 408) .nil .nil)) (.node (mo32_216 P) (.node (kO P 344) .nil .nil) .nil)) (.node (kO P 120) (.node (kO P 184) (.node (mo32_312 P) .nil .nil) .nil) (.node (kO P 248) (.node (kO P 376) .nil .nil) .nil))))) (.node (mo56_12 P) (.node (kO P 20) (.node (kO P 36) (.node (kO P 68) (.node (mo22_132 P) (.node (kO P 260) .nil .nil) (.node (kO P 388) .nil .nil)) (.node (mo32_196 P) (.node (mo32_324 P) .nil .nil) .nil)) (.node (kO P 100) (.node (kO P 164) (.node (kO P 292) .nil .nil) (.node (tO P 422) .nil .nil)) (.node (mo32_228 P) (.node (kO P 356) .nil .nil) .nil))) (.node (kO P 52) (.node (mo22_84 P) (.node (kO P 148) (.node (kO P 276) .nil .nil) (.node (kO P 404) .nil .nil)) (.node (kO P 212) (.node (mo47_340 P) .nil .nil) .nil)) (.node (kO P 116) (.node (kO P 180) (.node (tO P 310) .nil .nil) .nil) (.node (kO P 244) (.node (kO P 372) .nil .nil) .nil)))) (.node (kO P 28) (.node (mo22_44 P) (.node (kO P 76) (.node (kO P 140) (.node (kO P 268) .nil .nil) (.node (kO P 396) .nil .nil)) (.node (kO P 204) (.node (kO P 332) .nil .nil) .nil)) (.node (kO P 108) (.node (kO P 172) (.node (kO P 300) .nil .nil) .nil) (.node (kO P 236) (.node (kO P 364) .nil .nil) .nil))) (.node (mo22_60 P) (.node (tO P 94) (.node (tO P 158) (.node (mo32_284 P) .nil .nil) (.node (kO P 412) .nil .nil)) (.node (mo32_220 P) (.node (kO P 348) .nil .nil) .nil)) (.node (kO P 124) (.node (mo32_188 P) (.node (kO P 316) .nil .nil) .nil) (.node (tO P 254) (.node (tO P 382) .nil .nil) .nil)))))) (.node (boot_o_6 P) (.node (boot_o_10 P) (.node (kO P 18) (.node (kO P 34) (.node (kO P 66) (.node (kO P 130) (.node (kO P 258) .nil .nil) (.node (kO P 386) .nil .nil)) (.node (kO P 194) (.node (kO P 322) .nil .nil) .nil)) (.node (kO P 98) (.node (kO P 162) (.node (kO P 290) .nil .nil) (.node (kO P 418) .nil .nil)) (.node (mo32_226 P) (.node (kO P 354) .nil .nil) .nil))) (.node (kO P 50) (.node (mo22_82 P) (.node (mo22_146 P) (.node (kO P 274) .nil .nil) (.node (kO P 402) .nil .nil)) (.node (kO P 210) (.node (kO P 338) .nil .nil) .nil)) (.node (tO P 116) (.node (kO P 178) (.node (kO P 306) .nil .nil) .nil) (.node (mo32_242 P) (.node (mo56_370 P) .nil .nil) .nil)))) (.node (tO P 28) (.node (kO P 42) (.node (mo22_74 P) (.node (kO P 138) (.node (tO P 268) .nil .nil) (.node (tO P 396) .nil .nil)) (.node (kO P 202) (.node (kO P 330) .nil .nil) .nil)) (.node (kO P 106) (.node (tO P 172) (.node (mo32_298 P) .nil .nil) .nil) (.node (kO P 234) (.node (mo47_362 P) .nil .nil) .nil))) (.node (kO P 58) (.node (kO P 90) (.node (kO P 154) (.node (kO P 282) .nil .nil) (.node (mo56_410 P) .nil .nil)) (.node (mo32_218 P) (.node (kO P 346) .nil .nil) .nil)) (.node (kO P 122) (.node (mo22_186 P) (.node (kO P 314) .nil .nil) .nil) (.node (kO P 250) (.node (kO P 378) .nil .nil) .nil))))) (.node (mo22_14 P) (.node (kO P 22) (.node (kO P 38) (.node (tO P 72) (.node (kO P 134) (.node (kO P 262) .nil .nil) (.node (kO P 390) .nil .nil)) (.node (kO P 198) (.node (mo47_326 P) .nil .nil) .nil)) (.node (kO P 102) (.node (kO P 166) (.node (tO P 296) .nil .nil) (.node (kO P 422) .nil .nil)) (.node (mo32_230 P) (.node (tO P 360) .nil .nil) .nil))) (.node (tO P 56) (.node (mo22_86 P) (.node (kO P 150) (.node (kO P 278) .nil .nil) (.node (tO P 408) .nil .nil)) (.node (mo32_214 P) (.node (kO P 342) .nil .nil) .nil)) (.node (mo22_118 P) (.node (kO P 182) (.node (kO P 310) .nil .nil) .nil) (.node (kO P 246) (.node (kO P 374) .nil .nil) .nil)))) (.node (mo22_30 P) (.node (kO P 46) (.node (kO P 78) (.node (tO P 144) (.node (mo32_270 P) .nil .nil) (.node (mo56_398 P) .nil .nil)) (.node (tO P 208) (.node (kO P 334) .nil .nil) .nil)) (.node (kO P 110) (.node (mo22_174 P) (.node (kO P 302) .nil .nil) .nil) (.node (tO P 240) (.node (kO P 366) .nil .nil) .nil))) (.node (kO P 62) (.node (kO P 94) (.node (kO P 158) (.node (kO P 286) .nil .nil) (.node (kO P 414) .nil .nil)) (.node (kO P 222) (.node (tO P 352) .nil .nil) .nil)) (.node (kO P 126) (.node (mo32_190 P) (.node (kO P 318) .nil .nil) .nil) (.node (kO P 254) (.node (kO P 382) .nil .nil) .nil))))))))
noncomputable def cutT66 (P : Params) : BT :=
  (.node (boot_o_0 P) (.node (boot_o_1 P) (.node (kO P 3) (.node (boot_o_7 P) (.node (kO P 15) (.node (kO P 31) (.node (tO P 65) (.node (kO P 127) (.node (kO P 255) .nil .nil) (.node (kO P 383) .nil .nil)) (.node (mo32_191 P) (.node (kO P 319) .nil .nil) (.node (tO P 449) .nil .nil))) (.node (kO P 95) (.node (kO P 159) (.node (tO P 289) .nil .nil) (.node (kO P 415) .nil .nil)) (.node (kO P 223) (.node (kO P 351) .nil .nil) (.node (kO P 479) .nil .nil)))) (.node (tO P 49) (.node (kO P 79) (.node (kO P 143) (.node (kO P 271) .nil .nil) (.node (tO P 401) .nil .nil)) (.node (kO P 207) (.node (kO P 335) .nil .nil) (.node (kO P 463) .nil .nil))) (.node (mo22_111 P) (.node (kO P 175) (.node (kO P 303) .nil .nil) (.node (kO P 431) .nil .nil)) (.node (kO P 239) (.node (kO P 367) .nil .nil) .nil)))) (.node (mo22_23 P) (.node (kO P 39) (.node (kO P 71) (.node (tO P 137) (.node (mo32_263 P) .nil .nil) (.node (mo56_391 P) .nil .nil)) (.node (tO P 201) (.node (kO P 327) .nil .nil) (.node (kO P 455) .nil .nil))) (.node (kO P 103) (.node (mo22_167 P) (.node (kO P 295) .nil .nil) (.node (mo66_423 P) .nil .nil)) (.node (mo32_231 P) (.node (kO P 359) .nil .nil) (.node (kO P 487) .nil .nil)))) (.node (kO P 55) (.node (kO P 87) (.node (kO P 151) (.node (kO P 279) .nil .nil) (.node (kO P 407) .nil .nil)) (.node (kO P 215) (.node (tO P 345) .nil .nil) (.node (kO P 471) .nil .nil))) (.node (kO P 119) (.node (kO P 183) (.node (kO P 311) .nil .nil) (.node (kO P 439) .nil .nil)) (.node (kO P 247) (.node (kO P 375) .nil .nil) .nil))))) (.node (mo22_11 P) (.node (tO P 21) (.node (kO P 35) (.node (mo22_67 P) (.node (kO P 131) (.node (tO P 261) .nil .nil) (.node (tO P 389) .nil .nil)) (.node (kO P 195) (.node (mo32_323 P) .nil .nil) (.node (mo66_451 P) .nil .nil))) (.node (tO P 101) (.node (tO P 165) (.node (mo32_291 P) .nil .nil) (.node (kO P 419) .nil .nil)) (.node (mo32_227 P) (.node (mo47_355 P) .nil .nil) (.node (kO P 483) .nil .nil)))) (.node (mo22_51 P) (.node (mo22_83 P) (.node (kO P 147) (.node (kO P 275) .nil .nil) (.node (mo56_403 P) .nil .nil)) (.node (kO P 211) (.node (kO P 339) .nil .nil) (.node (kO P 467) .nil .nil))) (.node (kO P 115) (.node (kO P 179) (.node (kO P 307) .nil .nil) (.node (tO P 437) .nil .nil)) (.node (kO P 243) (.node (kO P 371) .nil .nil) .nil)))) (.node (kO P 27) (.node (kO P 43) (.node (kO P 75) (.node (mo22_139 P) (.node (kO P 267) .nil .nil) (.node (kO P 395) .nil .nil)) (.node (mo32_203 P) (.node (kO P 331) .nil .nil) (.node (kO P 459) .nil .nil))) (.node (tO P 109) (.node (kO P 171) (.node (kO P 299) .nil .nil) (.node (mo66_427 P) .nil .nil)) (.node (mo32_235 P) (.node (kO P 363) .nil .nil) (.node (kO P 491) .nil .nil)))) (.node (kO P 59) (.node (kO P 91) (.node (kO P 155) (.node (kO P 283) .nil .nil) (.node (kO P 411) .nil .nil)) (.node (mo32_219 P) (.node (mo47_347 P) .nil .nil) (.node (kO P 475) .nil .nil))) (.node (kO P 123) (.node (kO P 187) (.node (tO P 317) .nil .nil) (.node (mo66_443 P) .nil .nil)) (.node (kO P 251) (.node (kO P 379) .nil .nil) .nil)))))) (.node (boot_o_5 P) (.node (boot_o_9 P) (.node (kO P 17) (.node (tO P 35) (.node (kO P 65) (.node (kO P 129) (.node (kO P 257) .nil .nil) (.node (kO P 385) .nil .nil)) (.node (mo32_193 P) (.node (kO P 321) .nil .nil) (.node (kO P 449) .nil .nil))) (.node (kO P 97) (.node (kO P 161) (.node (kO P 289) .nil .nil) (.node (mo56_417 P) .nil .nil)) (.node (mo32_225 P) (.node (kO P 353) .nil .nil) (.node (kO P 481) .nil .nil)))) (.node (kO P 49) (.node (mo22_81 P) (.node (kO P 145) (.node (tO P 275) .nil .nil) (.node (kO P 401) .nil .nil)) (.node (kO P 209) (.node (kO P 337) .nil .nil) (.node (mo66_465 P) .nil .nil))) (.node (kO P 113) (.node (tO P 179) (.node (mo32_305 P) .nil .nil) (.node (kO P 433) .nil .nil)) (.node (kO P 241) (.node (kO P 369) .nil .nil) .nil)))) (.node (kO P 25) (.node (kO P 41) (.node (kO P 73) (.node (kO P 137) (.node (kO P 265) .nil .nil) (.node (kO P 393) .nil .nil)) (.node (kO P 201) (.node (tO P 331) .nil .nil) (.node (kO P 457) .nil .nil))) (.node (kO P 105) (.node (kO P 169) (.node (kO P 297) .nil .nil) (.node (mo66_425 P) .nil .nil)) (.node (mo32_233 P) (.node (kO P 361) .nil .nil) (.node (mo66_489 P) .nil .nil)))) (.node (kO P 57) (.node (mo22_89 P) (.node (mo22_153 P) (.node (kO P 281) .nil .nil) (.node (kO P 409) .nil .nil)) (.node (mo32_217 P) (.node (kO P 345) .nil .nil) (.node (tO P 475) .nil .nil))) (.node (tO P 123) (.node (mo22_185 P) (.node (kO P 313) .nil .nil) (.node (kO P 441) .nil .nil)) (.node (mo32_249 P) (.node (mo56_377 P) .nil .nil) .nil))))) (.node (mo22_13 P) (.node (kO P 21) (.node (mo22_37 P) (.node (kO P 69) (.node (kO P 133) (.node (kO P 261) .nil .nil) (.node (kO P 389) .nil .nil)) (.node (kO P 197) (.node (kO P 325) .nil .nil) (.node (kO P 453) .nil .nil))) (.node (kO P 101) (.node (kO P 165) (.node (kO P 293) .nil .nil) (.node (kO P 421) .nil .nil)) (.node (mo32_229 P) (.node (kO P 357) .nil .nil) (.node (tO P 487) .nil .nil)))) (.node (kO P 53) (.node (mo22_85 P) (.node (tO P 151) (.node (mo32_277 P) .nil .nil) (.node (kO P 405) .nil .nil)) (.node (mo32_213 P) (.node (kO P 341) .nil .nil) (.node (kO P 469) .nil .nil))) (.node (kO P 117) (.node (kO P 181) (.node (kO P 309) .nil .nil) (.node (kO P 437) .nil .nil)) (.node (tO P 247) (.node (tO P 375) .nil .nil) .nil)))) (.node (kO P 29) (.node (kO P 45) (.node (tO P 79) (.node (kO P 141) (.node (kO P 269) .nil .nil) (.node (kO P 397) .nil .nil)) (.node (kO P 205) (.node (mo47_333 P) .nil .nil) (.node (tO P 463) .nil .nil))) (.node (kO P 109) (.node (kO P 173) (.node (tO P 303) .nil .nil) (.node (mo66_429 P) .nil .nil)) (.node (kO P 237) (.node (tO P 367) .nil .nil) (.node (kO P 493) .nil .nil)))) (.node (kO P 61) (.node (kO P 93) (.node (kO P 157) (.node (kO P 285) .nil .nil) (.node (tO P 415) .nil .nil)) (.node (mo32_221 P) (.node (kO P 349) .nil .nil) (.node (mo66_477 P) .nil .nil))) (.node (mo22_125 P) (.node (mo32_189 P) (.node (kO P 317) .nil .nil) (.node (kO P 445) .nil .nil)) (.node (kO P 253) (.node (kO P 381) .nil .nil) .nil))))))) (.node (kO P 2) (.node (boot_o_4 P) (.node (boot_o_8 P) (.node (mo22_16 P) (.node (kO P 32) (.node (kO P 64) (.node (tO P 130) (.node (mo32_256 P) .nil .nil) (.node (mo56_384 P) .nil .nil)) (.node (mo32_192 P) (.node (kO P 320) .nil .nil) (.node (kO P 448) .nil .nil))) (.node (mo22_96 P) (.node (mo22_160 P) (.node (kO P 288) .nil .nil) (.node (kO P 416) .nil .nil)) (.node (kO P 224) (.node (kO P 352) .nil .nil) (.node (tO P 482) .nil .nil)))) (.node (kO P 48) (.node (mo22_80 P) (.node (kO P 144) (.node (kO P 272) .nil .nil) (.node (kO P 400) .nil .nil)) (.node (kO P 208) (.node (tO P 338) .nil .nil) (.node (kO P 464) .nil .nil))) (.node (kO P 112) (.node (kO P 176) (.node (kO P 304) .nil .nil) (.node (mo66_432 P) .nil .nil)) (.node (kO P 240) (.node (kO P 368) .nil .nil) .nil)))) (.node (kO P 24) (.node (tO P 42) (.node (kO P 72) (.node (kO P 136) (.node (kO P 264) .nil .nil) (.node (kO P 392) .nil .nil)) (.node (kO P 200) (.node (kO P 328) .nil .nil) (.node (kO P 456) .nil .nil))) (.node (mo22_104 P) (.node (kO P 168) (.node (kO P 296) .nil .nil) (.node (mo66_424 P) .nil .nil)) (.node (mo32_232 P) (.node (kO P 360) .nil .nil) (.node (kO P 488) .nil .nil)))) (.node (kO P 56) (.node (kO P 88) (.node (kO P 152) (.node (tO P 282) .nil .nil) (.node (kO P 408) .nil .nil)) (.node (mo32_216 P) (.node (kO P 344) .nil .nil) (.node (kO P 472) .nil .nil))) (.node (kO P 120) (.node (kO P 184) (.node (mo32_312 P) .nil .nil) (.node (kO P 440) .nil .nil)) (.node (kO P 248) (.node (kO P 376) .nil .nil) .nil))))) (.node (mo66_12 P) (.node (kO P 20) (.node (kO P 36) (.node (kO P 68) (.node (mo22_132 P) (.node (kO P 260) .nil .nil) (.node (kO P 388) .nil .nil)) (.node (mo32_196 P) (.node (mo32_324 P) .nil .nil) (.node (kO P 452) .nil .nil))) (.node (kO P 100) (.node (kO P 164) (.node (kO P 292) .nil .nil) (.node (tO P 422) .nil .nil)) (.node (mo32_228 P) (.node (kO P 356) .nil .nil) (.node (mo66_484 P) .nil .nil)))) (.node (kO P 52) (.node (mo22_84 P) (.node (kO P 148) (.node (kO P 276) .nil .nil) (.node (kO P 404) .nil .nil)) (.node (kO P 212) (.node (mo47_340 P) .nil .nil) (.node (kO P 468) .nil .nil))) (.node (kO P 116) (.node (kO P 180) (.node (tO P 310) .nil .nil) (.node (kO P 436) .nil .nil)) (.node (kO P 244) (.node (kO P 372) .nil .nil) .nil)))) (.node (kO P 28) (.node (mo22_44 P) (.node (kO P 76) (.node (kO P 140) (.node (kO P 268) .nil .nil) (.node (kO P 396) .nil .nil)) (.node (kO P 204) (.node (kO P 332) .nil .nil) (.node (kO P 460) .nil .nil))) (.node (kO P 108) (.node (kO P 172) (.node (kO P 300) .nil .nil) (.node (mo66_428 P) .nil .nil)) (.node (kO P 236) (.node (kO P 364) .nil .nil) (.node (tO P 494) .nil .nil)))) (.node (mo22_60 P) (.node (tO P 94) (.node (tO P 158) (.node (mo32_284 P) .nil .nil) (.node (kO P 412) .nil .nil)) (.node (mo32_220 P) (.node (kO P 348) .nil .nil) (.node (kO P 476) .nil .nil))) (.node (kO P 124) (.node (mo32_188 P) (.node (kO P 316) .nil .nil) (.node (mo66_444 P) .nil .nil)) (.node (tO P 254) (.node (tO P 382) .nil .nil) .nil)))))) (.node (boot_o_6 P) (.node (boot_o_10 P) (.node (kO P 18) (.node (kO P 34) (.node (kO P 66) (.node (kO P 130) (.node (kO P 258) .nil .nil) (.node (kO P 386) .nil .nil)) (.node (kO P 194) (.node (kO P 322) .nil .nil) (.node (kO P 450) .nil .nil))) (.node (kO P 98) (.node (kO P 162) (.node (kO P 290) .nil .nil) (.node (kO P 418) .nil .nil)) (.node (mo32_226 P) (.node (kO P 354) .nil .nil) (.node (kO P 482) .nil .nil)))) (.node (kO P 50) (.node (mo22_82 P) (.node (mo22_146 P) (.node (kO P 274) .nil .nil) (.node (kO P 402) .nil .nil)) (.node (kO P 210) (.node (kO P 338) .nil .nil) (.node (tO P 468) .nil .nil))) (.node (tO P 116) (.node (kO P 178) (.node (kO P 306) .nil .nil) (.node (kO P 434) .nil .nil)) (.node (mo32_242 P) (.node (mo56_370 P) .nil .nil) .nil)))) (.node (tO P 28) (.node (kO P 42) (.node (mo22_74 P) (.node (kO P 138) (.node (tO P 268) .nil .nil) (.node (tO P 396) .nil .nil)) (.node (kO P 202) (.node (kO P 330) .nil .nil) (.node (mo66_458 P) .nil .nil))) (.node (kO P 106) (.node (tO P 172) (.node (mo32_298 P) .nil .nil) (.node (mo66_426 P) .nil .nil)) (.node (kO P 234) (.node (mo47_362 P) .nil .nil) (.node (kO P 490) .nil .nil)))) (.node (kO P 58) (.node (kO P 90) (.node (kO P 154) (.node (kO P 282) .nil .nil) (.node (mo56_410 P) .nil .nil)) (.node (mo32_218 P) (.node (kO P 346) .nil .nil) (.node (kO P 474) .nil .nil))) (.node (kO P 122) (.node (mo22_186 P) (.node (kO P 314) .nil .nil) (.node (kO P 442) .nil .nil)) (.node (kO P 250) (.node (kO P 378) .nil .nil) .nil))))) (.node (mo22_14 P) (.node (kO P 22) (.node (kO P 38) (.node (tO P 72) (.node (kO P 134) (.node (kO P 262) .nil .nil) (.node (kO P 390) .nil .nil)) (.node (kO P 198) (.node (mo47_326 P) .nil .nil) (.node (tO P 456) .nil .nil))) (.node (kO P 102) (.node (kO P 166) (.node (tO P 296) .nil .nil) (.node (kO P 422) .nil .nil)) (.node (mo32_230 P) (.node (tO P 360) .nil .nil) (.node (kO P 486) .nil .nil)))) (.node (tO P 56) (.node (mo22_86 P) (.node (kO P 150) (.node (kO P 278) .nil .nil) (.node (tO P 408) .nil .nil)) (.node (mo32_214 P) (.node (kO P 342) .nil .nil) (.node (mo66_470 P) .nil .nil))) (.node (mo22_118 P) (.node (kO P 182) (.node (kO P 310) .nil .nil) (.node (kO P 438) .nil .nil)) (.node (kO P 246) (.node (kO P 374) .nil .nil) .nil)))) (.node (mo22_30 P) (.node (kO P 46) (.node (kO P 78) (.node (tO P 144) (.node (mo32_270 P) .nil .nil) (.node (mo56_398 P) .nil .nil)) (.node (tO P 208) (.node (kO P 334) .nil .nil) (.node (kO P 462) .nil .nil))) (.node (kO P 110) (.node (mo22_174 P) (.node (kO P 302) .nil .nil) (.node (kO P 430) .nil .nil)) (.node (tO P 240) (.node (kO P 366) .nil .nil) (.node (kO P 494) .nil .nil)))) (.node (kO P 62) (.node (kO P 94) (.node (kO P 158) (.node (kO P 286) .nil .nil) (.node (kO P 414) .nil .nil)) (.node (kO P 222) (.node (tO P 352) .nil .nil) (.node (kO P 478) .nil .nil))) (.node (kO P 126) (.node (mo32_190 P) (.node (kO P 318) .nil .nil) (.node (mo66_446 P) .nil .nil)) (.node (kO P 254) (.node (kO P 382) .nil .nil) .nil))))))))
def topRunT (tb : String → Option Builtin) (p : Program) (w : World) (n₀ : Nat) (ann : Option Value) : Nat → SharedT → Thread → Option SharedT
  | 0, _, _ => none
  | n + 1, s, t => match through t with
    | true => some s
    | false => match stepOk n₀ ann t with
      | false => none
      | true => match stepT (denote tb) p w s t with
        | some (s', t') => topRunT tb p w n₀ ann n s' t'
        | none => none
theorem topRunT_of {tb : String → Option Builtin} {p : Program} {w : World} {n₀ : Nat} {ann : Option Value} : ∀ {n : Nat} {s s' : SharedT} {t : Thread}, topRunT tb p w n₀ ann n s t = some s' → topRun tb p w n₀ ann n s.abs t = some s'.abs
  | 0, _, _, _, h => by cases h
  | n + 1, s, s', t, h => by
    unfold topRunT at h
    unfold topRun
    cases he : through t with
    | true => rw [he] at h; cases h; rfl
    | false =>
      rw [he] at h
      cases hk : stepOk n₀ ann t with
      | false => rw [hk] at h; cases h
      | true =>
        rw [hk] at h
        cases hs : stepT (denote tb) p w s t with
        | none => rw [hs] at h; cases h
        | some r => obtain ⟨s₂, t₂⟩ := r; rw [hs] at h; rw [stepT_spec hs]; exact topRunT_of h
def topGoT (tb : String → Option Builtin) (p : Program) (w : World) (n₀ : Nat) (ann : Option Value) : Nat → SharedT → Thread → Option (SharedT × Thread)
  | 0, s, t => some (s, t)
  | n + 1, s, t => match through t with
    | true => none
    | false => match stepOk n₀ ann t with
      | false => none
      | true => match stepT (denote tb) p w s t with
        | some (s', t') => topGoT tb p w n₀ ann n s' t'
        | none => none
theorem topGoT_of {tb : String → Option Builtin} {p : Program} {w : World} {n₀ : Nat} {ann : Option Value} : ∀ {n : Nat} {s s' : SharedT} {t t' : Thread}, topGoT tb p w n₀ ann n s t = some (s', t') → topGo tb p w n₀ ann n s.abs t = some (s'.abs, t')
  | 0, _, _, _, _, h => by cases h; rfl
  | n + 1, s, s', t, t', h => by
    unfold topGoT at h
    unfold topGo
    cases he : through t with
    | true => rw [he] at h; cases h
    | false =>
      rw [he] at h
      cases hk : stepOk n₀ ann t with
      | false => rw [hk] at h; cases h
      | true =>
        rw [hk] at h
        cases hs : stepT (denote tb) p w s t with
        | none => rw [hs] at h; cases h
        | some r => obtain ⟨s₂, t₂⟩ := r; rw [hs] at h; rw [stepT_spec hs]; exact topGoT_of h
/-- some statements of the top, to a state that is written out -/
theorem part_step {p : Program} {w : World} {n₀ : Nat} {ann : Option Value} {env : Env} {q p1 p2 : Pos} {sb sm : SharedT} {b : List Stmt} {r : Shared} {N1 N2 : Nat} (a m : Nat) {e : Nat} (he : a + m = e)
    (hC : segRunT treeTable p w n₀ ann 1 N1 sb (piecesOf ((b.drop a).take m) env (.body b env) p1 [topFrame q]) = some (.next, sm, .body b env, p2))
    (hD : topRun treeTable p w n₀ ann N2 sm.abs (restOf (b.drop e) env (.body b env) p2 [topFrame q]) = some r) :
    topRun treeTable p w n₀ ann (N1 + N2) sb.abs (restOf (b.drop a) env (.body b env) p1 [topFrame q]) = some r := by
  subst he
  have h := piece_app (rest := (b.drop a).drop m) (segRun_of hC) (by rw [List.drop_drop]; exact hD)
  rw [List.take_append_drop] at h
  exact h
theorem part_start {p : Program} {w : World} {n₀ : Nat} {ann : Option Value} {env : Env} {q p0 p1 : Pos} {s0 sa sb : SharedT} {b : List Stmt} {r : Shared} {a N0 N1 : Nat}
    (hA : topGoT treeTable p w n₀ ann a s0 (topStub p) = some (sa, ⟨denote treeTable (.body b env), .body b env, p0, [topFrame q]⟩))
    (hB : segRunT treeTable p w n₀ ann 1 N0 sa (blockOf b env (.body b env) p0 [topFrame q]) = some (.next, sb, .body b env, p1))
    (hD : topRun treeTable p w n₀ ann N1 sb.abs (restOf (b.drop 0) env (.body b env) p1 [topFrame q]) = some r) :
    topRun treeTable p w n₀ ann (a + (N0 + N1)) s0.abs (topStub p) = some r :=
  go_top (topGoT_of hA) (piece_block (segRun_of hB) hD)
noncomputable def bootList (P : Params) : List Obj := (boot_heap P).objs.toList
noncomputable def bootTree (P : Params) : BT := (bootList P).zipIdx.foldl (fun t x => t.ins x.2 x.1) .nil
theorem bootTree_abs (P : Params) : absHeap (bootTree P) 11 (boot_heap P).life = boot_heap P := by kernel_rfl
/-- an object read off the tree -/
def lookT (r : SharedT) (a : Nat) : Option Obj := match Nat.blt a r.n with
  | true => (r.tree.get a).bind alive
  | false => none
theorem lookT_of {r : SharedT} {a : Nat} {o : Obj} (h : lookT r a = some o) : r.abs.heap.get? a = some o := by
  unfold lookT at h
  cases e : Nat.blt a r.n with
  | false => rw [e] at h; cases h
  | true =>
    rw [e] at h
    cases g : r.tree.get a with
    | none => simp only [g] at h; cases h
    | some x =>
      simp only [g, Option.bind_some] at h
      exact (abs_get (Nat.le_of_ble_eq_true e) g).trans h
theorem looksT_of {r : SharedT} : ∀ {as : List Nat} {os : List (Nat × Obj)}, as.map (lookT r) = os.map (fun p => some p.2) → as.map r.abs.heap.get? = os.map fun p => some p.2
  | [], [], _ => rfl
  | a :: as, o :: os, h => by
    simp only [List.map_cons, List.cons.injEq] at h ⊢
    exact ⟨lookT_of h.1, looksT_of h.2⟩
  | [], _ :: _, h => by cases h
  | _ :: _, [], h => by cases h
theorem left_of {p q : Program} {loose : List Str} {Xt : Shared → Bool} {K : Params → Frag} {as : List Addr} {e0 : ∀ P, as = (K P).map (·.1)} {N M : Nat}
    (open_ : ∀ w : World, (fencedOpening treeTable p w N).map (fun s => (s.heap, s.gens, s.drawn, s.toks)) = some (boot_heap w.params, Array.mk [], boot_drawn, boot_toks))
    (size : ∀ w : World, ((boot_heap w.params).isNs mainGlobals, (boot_heap w.params).objs.size, (boot_heap w.params).nsMap mainGlobals "__annotations__") = (true, 11, some (.ref 6)))
    (le : Nat.ble M N = true) (fin : World → OsState → SharedT)
    (run : ∀ (w : World) (os : OsState), topRun treeTable p w 11 (some (.ref 6)) M (SharedT.abs ⟨bootTree w.params, 11, (boot_heap w.params).life, Array.mk [], boot_drawn, boot_toks, os⟩) (topStub p) = some (fin w os).abs)
    (still : ∀ (w : World) (os : OsState), (staticsOk (importedModules p.main.body) (boot_heap w.params) (fin w os).abs.heap && namesBound p (fin w os).abs.heap && gensDone (fin w os).abs && laidKept (boot_heap w.params) (fin w os).abs.heap) = true)
    (looks : ∀ (w : World) (os : OsState), openSeen q loose (importedModules p.main.body) Xt true (fin w os).abs = openGood q loose)
    (frag : ∀ (w : World) (os : OsState), as.map (lookT (fin w os)) = (K w.params).map fun p => some p.2) : LeftO p q loose Xt (kHook K as e0).obs (kHook K as e0).val N true := fun w => by
  obtain ⟨⟨h, gs, d, k, os⟩, e, e'⟩ := Option.map_eq_some_iff.mp (open_ w)
  obtain ⟨rfl, rfl, rfl, rfl⟩ : h = boot_heap w.params ∧ gs = Array.mk [] ∧ d = boot_drawn ∧ k = boot_toks := by simpa using e'
  obtain ⟨z1, z2, z3⟩ : _ ∧ _ ∧ _ := by simpa only [Prod.mk.injEq] using size w
  have r' := run w os
  have hb : (SharedT.abs ⟨bootTree w.params, 11, (boot_heap w.params).life, Array.mk [], boot_drawn, boot_toks, os⟩) = ⟨boot_heap w.params, Array.mk [], boot_drawn, boot_toks, os⟩ := by
    show Shared.mk (absHeap (bootTree w.params) 11 (boot_heap w.params).life) _ _ _ _ = _
    rw [bootTree_abs]
  rw [hb] at r'
  have r'' := topRun_mono (N - M) _ _ _ _ r'
  rw [show M + (N - M) = N by have := Nat.le_of_ble_eq_true le; omega] at r''
  have t : topFrom treeTable p w N ⟨boot_heap w.params, Array.mk [], boot_drawn, boot_toks, os⟩ = some (fin w os).abs := by
    unfold topFrom
    dsimp only
    rw [z1, z2, z3, r'']
    show (match staticsOk (importedModules p.main.body) (boot_heap w.params) (fin w os).abs.heap && namesBound p (fin w os).abs.heap && gensDone (fin w os).abs && laidKept (boot_heap w.params) (fin w os).abs.heap with | true => _ | false => _) = _
    rw [still w os]
  unfold openEnds
  rw [e]
  show (topFrom treeTable p w N _).map _ = _
  rw [t]
  exact congrArg some (Prod.ext (looks w os) (looksT_of (frag w os)))
theorem boot_size (w : World) : ((boot_heap w.params).isNs mainGlobals, (boot_heap w.params).objs.size, (boot_heap w.params).nsMap mainGlobals "__annotations__") = (true, 11, some (.ref 6)) := by kernel_rfl

noncomputable def hdAs : List Addr := [2, 3, 15, 17, 18, 20, 21, 22, 24, 25, 27, 28, 29, 31, 32, 34, 35, 36, 38, 39, 41, 42, 43, 45, 46, 48, 49, 50, 52, 53, 55, 56, 57, 58, 59, 61, 62, 64, 65, 66, 68, 69, 71, 72, 73, 75, 76, 78, 79, 87, 88, 90, 91, 93, 94, 95, 97, 98, 100, 101, 102, 103, 105, 106, 108, 109, 110, 112, 113, 115, 116, 117, 119, 120, 122, 123, 124, 126, 127, 129, 130, 131, 133, 134, 136, 137, 138, 140, 141, 143, 144, 145, 147, 148, 150, 151, 152, 154, 155, 157, 158, 159, 161, 162, 164, 165, 166, 168, 169, 171, 172, 173, 175, 176, 178, 179, 180, 181, 182, 183, 184, 187, 194, 195, 197, 198, 200, 201, 202, 204, 205, 207, 208, 209, 210, 211, 212, 215, 222, 223, 224, 234, 236, 237, 239, 240, 241, 243, 244, 246, 247, 248, 250, 251, 253, 254, 255, 257, 258, 260, 261, 262, 264, 265, 267, 268, 269, 271, 272, 274, 275, 276, 278, 279, 281, 282, 283, 285, 286, 288, 289, 290, 292, 293, 295, 296, 297, 299, 300, 302, 303, 304, 306, 307, 309, 310, 311, 313, 314, 316, 317, 318, 319, 320, 321, 322, 325, 327, 328, 330, 331, 332, 334, 335, 337, 338, 339, 341, 342, 344, 345, 346, 348, 349, 351, 352, 353, 354, 356, 357, 359, 360, 361, 363, 364, 366, 367, 368, 369, 371, 372, 374, 375, 376, 378, 379, 381, 382, 383, 385, 386, 388, 389, 390, 392, 393, 395, 396, 397, 400, 401, 402, 404, 405, 407, 408, 409, 411, 412, 414, 415, 416, 418, 419, 421, 422, 430, 431, 433, 434, 436, 437, 438, 439, 440, 441, 442, 445, 448, 449, 450, 452, 453, 455, 456, 457, 459, 460, 462, 463, 464, 467, 468, 469, 471, 472, 474, 475, 476, 478, 479, 481, 482, 483, 486, 487, 488, 490, 491, 493, 494]
theorem hdAs_is (P : Params) : hdAs = (hd.heap_39 P).map (·.1) := by kernel_rfl
noncomputable def bootS (w : World) (os : OsState) : SharedT := ⟨bootTree w.params, 11, (boot_heap w.params).life, Array.mk [], boot_drawn, boot_toks, os⟩
noncomputable def cutS22 (w : World) (os : OsState) : SharedT := ⟨cutT22 w.params, 187, (boot_heap w.params).life, Array.mk [], Drawn.mk 0 0 0 0, 435, os⟩
noncomputable def cutS32 (w : World) (os : OsState) : SharedT := ⟨cutT32 w.params, 325, (boot_heap w.params).life, Array.mk [], Drawn.mk 0 0 0 0, 619, os⟩
noncomputable def cutS47 (w : World) (os : OsState) : SharedT := ⟨cutT47 w.params, 368, (boot_heap w.params).life, Array.mk [], Drawn.mk 0 0 0 0, 689, os⟩
noncomputable def cutS56 (w : World) (os : OsState) : SharedT := ⟨cutT56 w.params, 423, (boot_heap w.params).life, Array.mk [], Drawn.mk 0 0 0 0, 769, os⟩
noncomputable def cutS66 (w : World) (os : OsState) : SharedT := ⟨cutT66 w.params, 495, (boot_heap w.params).life, Array.mk [], Drawn.mk 0 0 0 0, 872, os⟩
noncomputable def topB : List Stmt := behindTheImports PySem.Challenge.rw_og0184_01.row.toRowW.prog
noncomputable def topE : Env := { scope := (PySem.Challenge.rw_og0184_01.row.toRowW.prog).main.scope, locals := mainNs, globals := mainNs, cells := [], code := Value.ref 13, frame := some 14 }
abbrev pos0 : Pos := Pos.mk 0 0 0 0
noncomputable def atB (w : World) (os : OsState) : SharedT := match topGoT treeTable PySem.Challenge.rw_og0184_01.row.toRowW.prog w 11 (some (.ref 6)) 12 (bootS w os) (topStub PySem.Challenge.rw_og0184_01.row.toRowW.prog) with
  | some x => x.1
  | none => bootS w os
theorem part_a (w : World) (os : OsState) : topGoT treeTable PySem.Challenge.rw_og0184_01.row.toRowW.prog w 11 (some (.ref 6)) 12 (bootS w os) (topStub PySem.Challenge.rw_og0184_01.row.toRowW.prog) = some (atB w os, ⟨denote treeTable (.body topB topE), .body topB topE, pos0, [topFrame pos0]⟩) := by kernel_rfl
theorem part_b (w : World) (os : OsState) : segRunT treeTable PySem.Challenge.rw_og0184_01.row.toRowW.prog w 11 (some (.ref 6)) 1 1 (atB w os) (blockOf topB topE (.body topB topE) pos0 [topFrame pos0]) = some (.next, atB w os, .body topB topE, pos0) := by kernel_rfl
theorem part_c22 (w : World) (os : OsState) : segRunT treeTable PySem.Challenge.rw_og0184_01.row.toRowW.prog w 11 (some (.ref 6)) 1 1029 (atB w os) (piecesOf ((topB.drop 0).take 23) topE (.body topB topE) pos0 [topFrame pos0]) = some (.next, cutS22 w os, .body topB topE, (Pos.mk 64 0 139 16)) := by kernel_rfl
theorem part_c32 (w : World) (os : OsState) : segRunT treeTable PySem.Challenge.rw_og0184_01.row.toRowW.prog w 11 (some (.ref 6)) 1 1116 (cutS22 w os) (piecesOf ((topB.drop 23).take 10) topE (.body topB topE) (Pos.mk 64 0 139 16) [topFrame pos0]) = some (.next, cutS32 w os, .body topB topE, (Pos.mk 158 0 204 17)) := by kernel_rfl
theorem part_c47 (w : World) (os : OsState) : segRunT treeTable PySem.Challenge.rw_og0184_01.row.toRowW.prog w 11 (some (.ref 6)) 1 268 (cutS32 w os) (piecesOf ((topB.drop 33).take 15) topE (.body topB topE) (Pos.mk 158 0 204 17) [topFrame pos0]) = some (.next, cutS47 w os, .body topB topE, (Pos.mk 253 0 264 15)) := by kernel_rfl
theorem part_c56 (w : World) (os : OsState) : segRunT treeTable PySem.Challenge.rw_og0184_01.row.toRowW.prog w 11 (some (.ref 6)) 1 267 (cutS47 w os) (piecesOf ((topB.drop 48).take 9) topE (.body topB topE) (Pos.mk 253 0 264 15) [topFrame pos0]) = some (.next, cutS56 w os, .body topB topE, (Pos.mk 367 0 367 8)) := by kernel_rfl
theorem part_c66 (w : World) (os : OsState) : segRunT treeTable PySem.Challenge.rw_og0184_01.row.toRowW.prog w 11 (some (.ref 6)) 1 475 (cutS56 w os) (piecesOf ((topB.drop 57).take 10) topE (.body topB topE) (Pos.mk 367 0 367 8) [topFrame pos0]) = some (.next, cutS66 w os, .body topB topE, (Pos.mk 435 0 442 15)) := by kernel_rfl
theorem part_d (w : World) (os : OsState) : topRunT treeTable PySem.Challenge.rw_og0184_01.row.toRowW.prog w 11 (some (.ref 6)) 3 (cutS66 w os) (restOf (topB.drop 67) topE (.body topB topE) (Pos.mk 435 0 442 15) [topFrame pos0]) = some (cutS66 w os) := by kernel_rfl
theorem run_all (w : World) (os : OsState) : topRun treeTable PySem.Challenge.rw_og0184_01.row.toRowW.prog w 11 (some (.ref 6)) (12 + (1 + (1029 + (1116 + (268 + (267 + (475 + 3))))))) (bootS w os).abs (topStub PySem.Challenge.rw_og0184_01.row.toRowW.prog) = some (cutS66 w os).abs :=
  part_start (part_a w os) (part_b w os) (part_step 0 23 rfl (part_c22 w os) (part_step 23 10 rfl (part_c32 w os) (part_step 33 15 rfl (part_c47 w os) (part_step 48 9 rfl (part_c56 w os) (part_step 57 10 rfl (part_c66 w os) (topRunT_of (part_d w os)))))))
theorem look_still (w : World) (os : OsState) : (staticsOk (importedModules PySem.Challenge.rw_og0184_01.row.toRowW.prog.main.body) (boot_heap w.params) (cutS66 w os).abs.heap && namesBound PySem.Challenge.rw_og0184_01.row.toRowW.prog (cutS66 w os).abs.heap && gensDone (cutS66 w os).abs && laidKept (boot_heap w.params) (cutS66 w os).abs.heap) = true := by kernel_rfl
theorem look_frag (w : World) (os : OsState) : hdAs.map (lookT (cutS66 w os)) = (hd.heap_39 w.params).map fun p => some p.2 := by kernel_rfl
theorem look_all (w : World) (os : OsState) : openSeen hd.view_39 [Str.ofString "PaperError", Str.ofString "name_text"] (importedModules PySem.Challenge.rw_og0184_01.row.toRowW.prog.main.body) (fun s => xlAt hd.view_39 [] s && recOk PySem.Challenge.rw_og0184_01.row.toRowW.records s) true (cutS66 w os).abs = openGood hd.view_39 [Str.ofString "PaperError", Str.ofString "name_text"] := by kernel_rfl
theorem left : LeftO PySem.Challenge.rw_og0184_01.row.toRowW.prog hd.view_39 [Str.ofString "PaperError", Str.ofString "name_text"] (fun s => xlAt hd.view_39 [] s && recOk PySem.Challenge.rw_og0184_01.row.toRowW.records s) (kHook hd.heap_39 hdAs hdAs_is).obs (kHook hd.heap_39 hdAs hdAs_is).val 6426 true :=
  left_of (M := 12 + (1 + (1029 + (1116 + (268 + (267 + (475 + 3))))))) (boot_open (by kernel_rfl) (by kernel_rfl) (fun s => by kernel_rfl)) boot_size (by kernel_rfl) cutS66 run_all look_still look_all look_frag
theorem law_said : PySem.Challenge.rw_og0184_01.wellSaid = true := by kernel_rfl
theorem row_ok : (chainsOk hd.view_39 && opensWell PySem.Challenge.rw_og0184_01.row.prog && (frees PySem.Challenge.rw_og0184_01.row.toRowW && PySem.Challenge.rw_og0184_01.row.within.isEmpty)) = true := by kernel_rfl
theorem row_bare : PySem.Challenge.rw_og0184_01.row.prog.bare := ⟨rfl, rfl, rfl, rfl, rfl, by decide +kernel⟩
theorem row_promised : PySem.Challenge.rw_og0184_01.row.toRowW.promised := by w_witness2
theorem hd {d : DefRec} {kwd : List (Str × PySem.Expr)} (hdef : defOf hd.view_39 PySem.Challenge.rw_og0184_01.row.name = some (d, kwd)) (hp : PySem.Challenge.rw_og0184_01.row.prog.theDef PySem.Challenge.rw_og0184_01.row.name = some (d.params, d.body, d.scope)) (hk : kwWritten? d.params.kwonlyargs d.params.kw_defaults = some kwd)
    (walk : WalkO hd.view_39 [Str.ofString "PaperError", Str.ofString "name_text"] (XL hd.view_39 []) (kHook hd.heap_39 hdAs hdAs_is).says PySem.Challenge.rw_og0184_01.row.toRowW d kwd fun f vs => PySem.call f vs) : PySem.Challenge.rw_og0184_01.Holds :=
  holds_law law_said fun said => holds_open (q := hd.view_39) (loose := [Str.ofString "PaperError", Str.ofString "name_text"]) (Xt := fun s => xlAt hd.view_39 [] s && recOk PySem.Challenge.rw_og0184_01.row.toRowW.records s) (XP := XL hd.view_39 [])
    (Yf := (kHook hd.heap_39 hdAs hdAs_is).obs) (Ya := (kHook hd.heap_39 hdAs hdAs_is).val) (YP := (kHook hd.heap_39 hdAs hdAs_is).says) (N := 6426) left (kHook hd.heap_39 hdAs hdAs_is).of (kHook hd.heap_39 hdAs hdAs_is).keeps (fun s e => xl_of s (Bool.and_eq_true_iff.mp e).1) XL.keeps hdef hp hk
    (fun s e => recFacts_of (Bool.and_eq_true_iff.mp e).2) (by rfl) said row_ok row_bare row_promised walk
end Mine
end

section
set_option maxRecDepth 100000
namespace Mine
/-- the plain law: nothing of the program stands here. 40, 41: the brackets -/
def lbStep (i : Int) (st : List Int × List Int) (c : Int) : List Int × List Int :=
  if c = 40 then (st.1 ++ [i], st.2) else if c = 41 then (if st.1 = [] then (st.1, st.2 ++ [i]) else (st.1.dropLast, st.2)) else st
def lbAt (ks : List Int) : Nat → List Int × List Int
  | 0 => ([], [])
  | n + 1 => lbStep n (lbAt ks n) (ks.getD n 0)
theorem lb_facts (ks : List Int) : ∀ n, ((lbAt ks n).2 ++ (lbAt ks n).1).Nodup ∧ (∀ x ∈ (lbAt ks n).2 ++ (lbAt ks n).1, 0 ≤ x ∧ x < n) ∧ (lbAt ks n).1.length ≤ n ∧ (lbAt ks n).2.length ≤ n
  | 0 => by simp [lbAt]
  | n + 1 => by
    obtain ⟨h1, h2, h3, h4⟩ := lb_facts ks n
    show ((lbStep n (lbAt ks n) (ks.getD n 0)).2 ++ (lbStep n (lbAt ks n) (ks.getD n 0)).1).Nodup ∧ _
    have e : lbAt ks (n + 1) = lbStep n (lbAt ks n) (ks.getD n 0) := rfl
    rw [e]
    generalize ks.getD n 0 = c
    generalize hst : lbAt ks n = st at h1 h2 h3 h4 ⊢
    obtain ⟨op, kk⟩ := st
    simp only at h1 h2 h3 h4
    have hfr : (n : Int) ∉ kk ++ op := fun hm => by have := h2 _ hm; omega
    have h2' : ∀ x ∈ kk ++ op, 0 ≤ x ∧ x < ((n + 1 : Nat) : Int) := fun x hx => by have := h2 x hx; omega
    unfold lbStep
    by_cases c1 : c = 40
    · simp only [c1, if_true]
      refine ⟨?_, ?_, ?_, ?_⟩
      · rw [← List.append_assoc]
        refine List.nodup_append.mpr ⟨h1, by simp, ?_⟩
        intro a ha b hb e
        simp only [List.mem_singleton] at hb
        exact hfr (by rw [← hb, ← e]; exact ha)
      · intro x hx
        rw [← List.append_assoc] at hx
        rcases List.mem_append.mp hx with hx | hx
        · exact h2' x hx
        · simp only [List.mem_singleton] at hx; omega
      · simp; omega
      · omega
    · simp only [c1, if_false]
      by_cases c2 : c = 41
      · simp only [c2, if_true]
        by_cases c3 : op = []
        · subst c3
          simp only [if_true, List.append_nil] at h1 hfr h2' ⊢
          refine ⟨?_, ?_, ?_, ?_⟩
          · refine List.nodup_append.mpr ⟨h1, by simp, ?_⟩
            intro a ha b hb e
            simp only [List.mem_singleton] at hb
            exact hfr (by rw [← hb, ← e]; exact ha)
          · intro x hx
            rcases List.mem_append.mp hx with hx | hx
            · exact h2' x hx
            · simp only [List.mem_singleton] at hx; omega
          · simp
          · simp; omega
        · simp only [c3, if_false]
          have hs : List.Sublist (kk ++ op.dropLast) (kk ++ op) := List.Sublist.append (List.Sublist.refl _) (List.dropLast_sublist _)
          refine ⟨h1.sublist hs, fun x hx => h2' x (hs.subset hx), ?_, ?_⟩
          · rw [List.length_dropLast]; omega
          · omega
      · simp only [c2, if_false]
        exact ⟨h1, h2', by omega, by omega⟩
theorem lb_fresh {ks : List Int} {n : Nat} {op kk : List Int} (h : (op, kk) = lbAt ks n) : (n : Int) ∉ kk := by
  have := (lb_facts ks n).2.1
  rw [← h] at this
  intro hm
  have := this n (List.mem_append_left _ hm)
  omega
theorem lb_len {ks : List Int} {n : Nat} {op kk : List Int} (h : (op, kk) = lbAt ks n) : op.length ≤ n ∧ kk.length ≤ n := by
  have := (lb_facts ks n).2.2
  rw [← h] at this
  exact this
theorem lb_open {ks : List Int} {n : Nat} {op kk : List Int} (h : (op, kk) = lbAt ks n) (hc : ks.getD n 0 = 40) : (op ++ [(n : Int)], kk) = lbAt ks (n + 1) := by
  show _ = lbStep n (lbAt ks n) (ks.getD n 0)
  rw [← h, hc]; rfl
theorem lb_close {ks : List Int} {n : Nat} {op kk : List Int} (h : (op, kk) = lbAt ks n) (hc : ks.getD n 0 = 41) (ho : 0 < op.length) : (op.dropLast, kk) = lbAt ks (n + 1) := by
  show _ = lbStep n (lbAt ks n) (ks.getD n 0)
  rw [← h, hc]
  have : op ≠ [] := by intro e; rw [e] at ho; simp at ho
  simp [lbStep, this]
theorem lb_lone {ks : List Int} {n : Nat} {op kk : List Int} (h : (op, kk) = lbAt ks n) (hc : ks.getD n 0 = 41) (ho : ¬ 0 < op.length) : (op, kk ++ [(n : Int)]) = lbAt ks (n + 1) := by
  show _ = lbStep n (lbAt ks n) (ks.getD n 0)
  rw [← h, hc]
  have : op = [] := by cases op with | nil => rfl | cons a r => simp at ho
  simp [lbStep, this]
theorem lb_other {ks : List Int} {n : Nat} {op kk : List Int} (h : (op, kk) = lbAt ks n) (hc : ks.getD n 0 ≠ 40) (hc' : ks.getD n 0 ≠ 41) : (op, kk) = lbAt ks (n + 1) := by
  show _ = lbStep n (lbAt ks n) (ks.getD n 0)
  rw [← h]
  simp only [lbStep, if_neg hc, if_neg hc']

/-- how far a text goes down below its start -/
def reach : List Int → Nat
  | [] => 0
  | c :: r => if c = 40 then reach r - 1 else if c = 41 then reach r + 1 else reach r
/-- brackets open behind one more sign -/
def step (h : Nat) (c : Int) : Nat := if c = 40 then h + 1 else if c = 41 then h - 1 else h
def lone (h : Nat) (c : Int) (r : List Int) : Bool := (c == 40 && reach r == 0) || (c == 41 && h == 0)
def loneL : Int → Nat → List Int → List Int
  | _, _, [] => []
  | i, h, c :: r => (if lone h c r = true then [i] else []) ++ loneL (i + 1) (step h c) r
/-- the octets between the brackets of a literal -/
def litB : Nat → List Int → List Int
  | _, [] => []
  | h, c :: r => (if c = 13 then [92, 114] else if c = 92 ∨ lone h c r = true then [92, c] else [c]) ++ litB (step h c) r
def lit (ks : List Int) : List Int := 40 :: (litB 0 ks ++ [41])
def runS : Int → List Int × List Int → List Int → List Int × List Int
  | _, st, [] => st
  | i, st, c :: r => runS (i + 1) (lbStep i st c) r
theorem run_from (ks : List Int) : ∀ n, n ≤ ks.length → runS n (lbAt ks n) (ks.drop n) = runS 0 ([], []) ks
  | 0, _ => rfl
  | n + 1, h => by
    rw [← run_from ks n (by omega)]
    have e : ks.drop n = ks.getD n 0 :: ks.drop (n + 1) := by
      have h' : n < ks.length := by omega
      rw [List.drop_eq_getElem_cons h']
      simp [List.getD, h']
    rw [e]
    show _ = runS ((n : Int) + 1) (lbStep n (lbAt ks n) (ks.getD n 0)) (ks.drop (n + 1))
    rfl
theorem run_end (ks : List Int) : lbAt ks ks.length = runS 0 ([], []) ks := by
  rw [← run_from ks ks.length (Nat.le_refl _), List.drop_length]
  rfl
def opensF : Int → List Int → List Int
  | _, [] => []
  | i, c :: r => (if c = 40 ∧ reach r = 0 then [i] else []) ++ opensF (i + 1) r
def closF : Int → Nat → List Int → List Int
  | _, _, [] => []
  | i, h, c :: r => (if c = 41 ∧ h = 0 then [i] else []) ++ closF (i + 1) (step h c) r
theorem step_len (i : Int) (op kk : List Int) (c : Int) : (lbStep i (op, kk) c).1.length = step op.length c := by
  unfold lbStep step
  by_cases c1 : c = 40
  · simp [c1]
  · by_cases c2 : c = 41
    · by_cases c3 : op = []
      · simp [c2, c3]
      · simp [c2, c3]
    · simp [c1, c2]
theorem run_opens : ∀ (r : List Int) (i : Int) (op kk : List Int), (runS i (op, kk) r).1 = op.take (op.length - reach r) ++ opensF i r
  | [], i, op, kk => by simp [runS, reach, opensF]
  | c :: r, i, op, kk => by
    show (runS (i + 1) (lbStep i (op, kk) c) r).1 = op.take (op.length - reach (c :: r)) ++ ((if c = 40 ∧ reach r = 0 then [i] else []) ++ opensF (i + 1) r)
    unfold lbStep
    by_cases c1 : c = 40
    · simp only [c1, if_true, true_and]
      rw [run_opens r]
      have hre : reach (40 :: r) = reach r - 1 := by simp [reach]
      rw [hre]
      simp only [List.length_append, List.length_cons, List.length_nil]
      by_cases hr : reach r = 0
      · simp only [hr, if_true]
        rw [List.take_of_length_le (by simp), List.take_of_length_le (by omega)]
        simp
      · rw [if_neg hr, List.nil_append, List.take_append_of_le_length (by omega)]
        congr 2
        omega
    · by_cases c2 : c = 41
      · have c3 : ¬ (c = 40 ∧ reach r = 0) := fun h => c1 h.1
        rw [if_neg c3, List.nil_append]
        have hre : reach (c :: r) = reach r + 1 := by simp [reach, c2]
        rw [hre, if_neg c1, if_pos c2]
        by_cases c4 : op = []
        · subst c4
          simp only [if_true]
          rw [run_opens r]
          simp
        · simp only [c4, if_false]
          rw [run_opens r, List.length_dropLast]
          congr 1
          rw [List.dropLast_eq_take, List.take_take]
          congr 1
          omega
      · have c3 : ¬ (c = 40 ∧ reach r = 0) := fun h => c1 h.1
        rw [if_neg c3, List.nil_append]
        simp only [c1, c2, if_false]
        rw [run_opens r]
        simp [reach, c1, c2]
theorem run_clos : ∀ (r : List Int) (i : Int) (op kk : List Int), (runS i (op, kk) r).2 = kk ++ closF i op.length r
  | [], i, op, kk => by simp [runS, closF]
  | c :: r, i, op, kk => by
    show (runS (i + 1) (lbStep i (op, kk) c) r).2 = kk ++ ((if c = 41 ∧ op.length = 0 then [i] else []) ++ closF (i + 1) (step op.length c) r)
    have e : lbStep i (op, kk) c = ((lbStep i (op, kk) c).1, (lbStep i (op, kk) c).2) := rfl
    rw [e, run_clos r, step_len, ← List.append_assoc]
    congr 1
    unfold lbStep
    by_cases c1 : c = 40
    · simp [c1]
    · by_cases c2 : c = 41
      · by_cases c3 : op = []
        · simp [c2, c3]
        · simp [c2, c3]
      · simp [c1, c2]
theorem lone_mem (x : Int) : ∀ (r : List Int) (i : Int) (h : Nat), x ∈ loneL i h r ↔ x ∈ opensF i r ∨ x ∈ closF i h r
  | [], i, h => by simp [loneL, opensF, closF]
  | c :: r, i, h => by
    simp only [loneL, opensF, closF, List.mem_append, lone_mem x r, lone]
    by_cases c1 : c = 40
    · subst c1
      by_cases hr : reach r = 0 <;> simp [hr] <;> grind
    · by_cases c2 : c = 41
      · subst c2
        by_cases hr : h = 0 <;> simp [hr] <;> grind
      · simp [c1, c2]
theorem loneL_ge : ∀ (r : List Int) (i : Int) (h : Nat), ∀ x ∈ loneL i h r, i ≤ x ∧ x < i + r.length
  | [], i, h => by simp [loneL]
  | c :: r, i, h => by
    intro x hx
    simp only [loneL, List.mem_append] at hx
    rcases hx with hx | hx
    · split at hx
      · simp only [List.mem_singleton] at hx; simp; omega
      · cases hx
    · have := loneL_ge r _ _ x hx
      simp only [List.length_cons]
      omega
theorem loneL_sorted : ∀ (r : List Int) (i : Int) (h : Nat), (loneL i h r).Pairwise (· < ·)
  | [], i, h => .nil
  | c :: r, i, h => by
    simp only [loneL]
    split
    · refine List.Pairwise.cons ?_ (loneL_sorted r _ _)
      intro x hx
      have := loneL_ge r _ _ x hx
      omega
    · exact loneL_sorted r _ _
/-- the keys of the dict are the lone places -/
theorem keys_perm (ks : List Int) : ((lbAt ks ks.length).2 ++ (lbAt ks ks.length).1).Perm (loneL 0 0 ks) := by
  refine (List.perm_ext_iff_of_nodup (lb_facts ks ks.length).1 ((loneL_sorted ks 0 0).imp fun h => by omega)).mpr fun x => ?_
  rw [run_end]
  rw [List.mem_append, run_opens, run_clos, lone_mem]
  simp
  grind
/-- the height ahead of a place -/
def hgt (ks : List Int) : Nat → Nat
  | 0 => 0
  | n + 1 => step (hgt ks n) (ks.getD n 0)
theorem drop_cons {ks : List Int} {n : Nat} (h : n < ks.length) : ks.drop n = ks.getD n 0 :: ks.drop (n + 1) := by
  rw [List.drop_eq_getElem_cons h]
  simp [List.getD, h]
def loneAt (ks : List Int) (n : Nat) : Bool := lone (hgt ks n) (ks.getD n 0) (ks.drop (n + 1))
/-- the lone places ahead of a place -/
def loneTo (ks : List Int) : Nat → List Int
  | 0 => []
  | n + 1 => loneTo ks n ++ (if loneAt ks n = true then [(n : Int)] else [])
theorem loneTo_from (ks : List Int) : ∀ n, n ≤ ks.length → loneTo ks n ++ loneL n (hgt ks n) (ks.drop n) = loneL 0 0 ks
  | 0, _ => rfl
  | n + 1, h => by
    rw [← loneTo_from ks n (by omega), drop_cons (ks := ks) (n := n) (by omega)]
    show loneTo ks n ++ (if loneAt ks n = true then [(n : Int)] else []) ++ _ = loneTo ks n ++ ((if lone (hgt ks n) (ks.getD n 0) (ks.drop (n + 1)) = true then [(n : Int)] else []) ++ loneL ((n : Int) + 1) (step (hgt ks n) (ks.getD n 0)) (ks.drop (n + 1)))
    rw [List.append_assoc]
    rfl
theorem loneTo_all (ks : List Int) : loneTo ks ks.length = loneL 0 0 ks := by
  rw [← loneTo_from ks ks.length (Nat.le_refl _), List.drop_length]
  simp [loneL]
theorem loneTo_mem {ks : List Int} {i : Nat} : ∀ n, (i : Int) ∈ loneTo ks n ↔ i < n ∧ loneAt ks i = true
  | 0 => by simp [loneTo]
  | n + 1 => by
    simp only [loneTo, List.mem_append, loneTo_mem n]
    by_cases hl : loneAt ks n = true
    · simp only [hl, if_true, List.mem_singleton]
      constructor
      · rintro (⟨h1, h2⟩ | h1)
        · exact ⟨by omega, h2⟩
        · have : i = n := by omega
          subst this; exact ⟨by omega, hl⟩
      · rintro ⟨h1, h2⟩
        by_cases e : i = n
        · exact .inr (by omega)
        · exact .inl ⟨by omega, h2⟩
    · simp only [hl, if_false]
      constructor
      · rintro (⟨h1, h2⟩ | h1)
        · exact ⟨by omega, h2⟩
        · cases h1
      · rintro ⟨h1, h2⟩
        by_cases e : i = n
        · subst e; exact absurd h2 hl
        · exact .inl ⟨by omega, h2⟩
theorem keys_mem {ks : List Int} {i : Nat} (h : i < ks.length) : (i : Int) ∈ (lbAt ks ks.length).2 ++ (lbAt ks ks.length).1 ↔ loneAt ks i = true := by
  rw [(keys_perm ks).mem_iff, ← loneTo_all, loneTo_mem]
  exact ⟨fun h => h.2, fun h' => ⟨h, h'⟩⟩
/-- the octets that stand for one of ks -/
def litC (ks : List Int) (i : Nat) : List Int :=
  if ks.getD i 0 = 13 then [92, 114] else if ks.getD i 0 = 92 ∨ (i : Int) ∈ (lbAt ks ks.length).2 ++ (lbAt ks ks.length).1 then [92, ks.getD i 0] else [ks.getD i 0]
def litTo (ks : List Int) : Nat → List Int
  | 0 => []
  | n + 1 => litTo ks n ++ litC ks n
theorem litTo_len (ks : List Int) : ∀ n, (litTo ks n).length ≤ 2 * n
  | 0 => by simp [litTo]
  | n + 1 => by
    have := litTo_len ks n
    have h2 : (litC ks n).length ≤ 2 := by unfold litC; split; simp; split <;> simp
    show (litTo ks n ++ litC ks n).length ≤ _
    rw [List.length_append]; omega
theorem lit_cr {ks : List Int} {n : Nat} (hc : ks.getD n 0 = 13) : 40 :: litTo ks n ++ [92, 114] = 40 :: litTo ks (n + 1) := by
  show _ = 40 :: (litTo ks n ++ litC ks n)
  unfold litC; rw [if_pos hc]; rfl
theorem lit_esc {ks : List Int} {n : Nat} (hc : ks.getD n 0 ≠ 13) (hc' : ks.getD n 0 = 92 ∨ (n : Int) ∈ (lbAt ks ks.length).2 ++ (lbAt ks ks.length).1) : 40 :: litTo ks n ++ [92, ks.getD n 0] = 40 :: litTo ks (n + 1) := by
  show _ = 40 :: (litTo ks n ++ litC ks n)
  unfold litC; rw [if_neg hc, if_pos hc']; rfl
theorem lit_as {ks : List Int} {n : Nat} (hc : ks.getD n 0 ≠ 13) (hc' : ks.getD n 0 ≠ 92) (hi : ¬ (n : Int) ∈ (lbAt ks ks.length).2 ++ (lbAt ks ks.length).1) : 40 :: litTo ks n ++ [ks.getD n 0] = 40 :: litTo ks (n + 1) := by
  show _ = 40 :: (litTo ks n ++ litC ks n)
  unfold litC; rw [if_neg hc, if_neg (fun h => h.elim hc' hi)]; rfl
theorem litTo_from (ks : List Int) : ∀ n, n ≤ ks.length → litTo ks n ++ litB (hgt ks n) (ks.drop n) = litB 0 ks
  | 0, _ => rfl
  | n + 1, h => by
    rw [← litTo_from ks n (by omega), drop_cons (ks := ks) (n := n) (by omega)]
    have e : litC ks n = (if ks.getD n 0 = 13 then [92, 114] else if ks.getD n 0 = 92 ∨ lone (hgt ks n) (ks.getD n 0) (ks.drop (n + 1)) = true then [92, ks.getD n 0] else [ks.getD n 0]) := by
      unfold litC
      simp only [keys_mem (ks := ks) (i := n) (by omega)]
      rfl
    show litTo ks n ++ litC ks n ++ _ = litTo ks n ++ ((if ks.getD n 0 = 13 then [92, 114] else if ks.getD n 0 = 92 ∨ lone (hgt ks n) (ks.getD n 0) (ks.drop (n + 1)) = true then [92, ks.getD n 0] else [ks.getD n 0]) ++ litB (step (hgt ks n) (ks.getD n 0)) (ks.drop (n + 1)))
    rw [← e, List.append_assoc]
    rfl
theorem lit_is (ks : List Int) : 40 :: (litTo ks ks.length ++ [41]) = lit ks := by
  have h := litTo_from ks ks.length (Nat.le_refl _)
  rw [List.drop_length] at h
  simp only [litB, List.append_nil] at h
  rw [h]; rfl
theorem litC_in {ks : List Int} (hk : ∀ k ∈ ks, 0 ≤ k ∧ k < 256) (n : Nat) : ∀ k ∈ litC ks n, 0 ≤ k ∧ k < 256 := by
  have h0 : 0 ≤ ks.getD n 0 ∧ ks.getD n 0 < 256 := PySem.W.KBw.getD_in hk
  intro k hm
  unfold litC at hm
  split at hm
  · simp only [List.mem_cons, List.not_mem_nil, or_false] at hm; omega
  · split at hm
    · simp only [List.mem_cons, List.not_mem_nil, or_false] at hm
      rcases hm with rfl | rfl
      · omega
      · exact h0
    · simp only [List.mem_cons, List.not_mem_nil, or_false] at hm
      subst hm; exact h0
theorem litTo_in {ks : List Int} (hk : ∀ k ∈ ks, 0 ≤ k ∧ k < 256) : ∀ n, ∀ k ∈ litTo ks n, 0 ≤ k ∧ k < 256
  | 0 => by simp [litTo]
  | n + 1 => by
    intro k hm
    rcases List.mem_append.mp (show k ∈ litTo ks n ++ litC ks n from hm) with hm | hm
    · exact litTo_in hk n k hm
    · exact litC_in hk n k hm
/-- the law's own search: what lies ahead of a place, or behind it -/
def restOf (ks : List Int) (st sp : Int) : List Int := if st = 1 then ks.drop sp.toNat else (ks.take (sp + 1).toNat).reverse
def w1 (c : Int) : Int := if c = 40 then 1 else if c = 41 then -1 else 0
def hit : Int → List Int → Bool
  | _, [] => false
  | d, c :: r => if d + w1 c = 0 ∧ (c = 40 ∨ c = 41) then true else hit (d + w1 c) r
theorem restOf_in {ks : List Int} {st sp : Int} (hs : st = 1 ∨ st = -1) (h0 : 0 ≤ sp) (h1 : sp < ks.length) : restOf ks st sp = ks.getD sp.toNat 0 :: restOf ks st (sp + st) := by
  rcases hs with rfl | rfl
  · unfold restOf
    simp only [if_true]
    have e : (sp + 1).toNat = sp.toNat + 1 := by omega
    rw [e, drop_cons (by omega)]
  · unfold restOf
    have e1 : ¬ (-1 : Int) = 1 := by decide
    have e : (sp + 1).toNat = sp.toNat + 1 := by omega
    have e2 : (sp + -1 + 1).toNat = sp.toNat := by omega
    rw [if_neg e1, if_neg e1, e, e2, List.take_add_one]
    have h2 : sp.toNat < ks.length := by omega
    simp [List.getD, h2]
theorem restOf_out {ks : List Int} {st sp : Int} (hs : (st = 1 ∧ 0 ≤ sp) ∨ (st = -1 ∧ sp < ks.length)) (h : ¬ (0 ≤ sp ∧ sp < ks.length)) : restOf ks st sp = [] := by
  rcases hs with ⟨rfl, h0⟩ | ⟨rfl, h0⟩
  · unfold restOf
    simp only [if_true]
    exact List.drop_eq_nil_of_le (by omega)
  · unfold restOf
    have e1 : ¬ (-1 : Int) = 1 := by decide
    have e : (sp + 1).toNat = 0 := by omega
    rw [if_neg e1, e]
    rfl
theorem restOf_len {ks : List Int} {st sp : Int} : (restOf ks st sp).length ≤ ks.length := by
  unfold restOf; split <;> simp <;> omega
theorem hit_ahead : ∀ (r : List Int) (d : Int), 0 < d → hit d r = decide (d ≤ reach r)
  | [], d, h => by
    have h2 : ¬ d ≤ ((reach [] : Nat) : Int) := by
      have : reach [] = 0 := rfl
      omega
    rw [decide_eq_false h2]; rfl
  | c :: r, d, h => by
    unfold hit w1
    by_cases c1 : c = 40
    · subst c1
      simp only [if_true]
      rw [if_neg (by omega), hit_ahead r _ (by omega)]
      have : reach (40 :: r) = reach r - 1 := by simp [reach]
      rw [this]
      congr 1
      exact propext ⟨fun h => by omega, fun h => by omega⟩
    · by_cases c2 : c = 41
      · subst c2
        have e1 : ¬ (41 : Int) = 40 := by decide
        have : reach (41 :: r) = reach r + 1 := by simp [reach]
        rw [if_neg e1, if_pos rfl, this]
        by_cases hd : d = 1
        · subst hd
          rw [if_pos ⟨by omega, .inr rfl⟩]
          exact (decide_eq_true (by omega)).symm
        · rw [if_neg (by omega), hit_ahead r _ (by omega)]
          congr 1
          exact propext ⟨fun h => by omega, fun h => by omega⟩
      · have : reach (c :: r) = reach r := by simp [reach, c1, c2]
        rw [if_neg c1, if_neg c2, if_neg (by omega), this, Int.add_zero, hit_ahead r d h]
def hrev : List Int → Nat
  | [] => 0
  | c :: r => step (hrev r) c
theorem hit_behind : ∀ (r : List Int) (d : Int), d < 0 → hit d r = decide (-d ≤ hrev r)
  | [], d, h => by simp [hit, hrev]; omega
  | c :: r, d, h => by
    unfold hit w1
    have e : hrev (c :: r) = step (hrev r) c := rfl
    rw [e]
    unfold step
    by_cases c1 : c = 40
    · subst c1
      simp only [if_true]
      by_cases hd : d = -1
      · subst hd
        simp; omega
      · rw [if_neg (by omega), hit_behind r _ (by omega)]
        congr 1
        exact propext ⟨fun h => by omega, fun h => by omega⟩
    · by_cases c2 : c = 41
      · subst c2
        have e1 : ¬ (41 : Int) = 40 := by decide
        rw [if_neg e1, if_pos rfl, if_neg e1, if_pos rfl, if_neg (by omega), hit_behind r _ (by omega)]
        congr 1
        exact propext ⟨fun h => by omega, fun h => by omega⟩
      · rw [if_neg c1, if_neg c2, if_neg c1, if_neg c2, if_neg (by omega), Int.add_zero, hit_behind r d h]
theorem hgt_rev (ks : List Int) : ∀ n, n ≤ ks.length → hgt ks n = hrev (ks.take n).reverse
  | 0, _ => by simp [hgt, hrev]
  | n + 1, h => by
    have h2 : n < ks.length := by omega
    rw [List.take_add_one]
    simp only [List.getElem?_eq_getElem h2, Option.toList_some, List.reverse_append, List.reverse_cons, List.reverse_nil, List.nil_append, List.cons_append]
    show step (hgt ks n) (ks.getD n 0) = step (hrev (ks.take n).reverse) ks[n]
    rw [hgt_rev ks n (by omega)]
    simp [List.getD, h2]
/-- the search finds no partner just for the lone ones -/
theorem hit_open {ks : List Int} {i : Nat} (h : i < ks.length) (hc : ks.getD i 0 = 40) : hit 0 (restOf ks 1 i) = !loneAt ks i := by
  rw [restOf_in (.inl rfl) (by omega) (by omega), Int.toNat_natCast, hc]
  have e2 : restOf ks 1 ((i : Int) + 1) = ks.drop (i + 1) := by
    unfold restOf; simp only [if_true]; congr 1
  rw [e2]
  show (if (0 : Int) + w1 40 = 0 ∧ ((40 : Int) = 40 ∨ (40 : Int) = 41) then true else hit (0 + w1 40) (ks.drop (i + 1))) = _
  have e3 : (0 : Int) + w1 40 = 1 := by decide
  rw [e3, if_neg (by omega), hit_ahead _ _ (by omega)]
  have e4 : loneAt ks i = decide (reach (ks.drop (i + 1)) = 0) := by
    unfold loneAt lone
    rw [hc]
    simp
    exact Bool.beq_eq_decide_eq _ _
  rw [e4, ← decide_not]
  congr 1
  exact propext ⟨fun h => by omega, fun h => by omega⟩
theorem hit_close {ks : List Int} {i : Nat} (h : i < ks.length) (hc : ks.getD i 0 = 41) : hit 0 (restOf ks (-1) i) = !loneAt ks i := by
  rw [restOf_in (.inr rfl) (by omega) (by omega), Int.toNat_natCast, hc]
  have e2 : restOf ks (-1) ((i : Int) + -1) = (ks.take i).reverse := by
    unfold restOf
    rw [if_neg (by decide)]
    congr 2; omega
  rw [e2]
  show (if (0 : Int) + w1 41 = 0 ∧ ((41 : Int) = 40 ∨ (41 : Int) = 41) then true else hit (0 + w1 41) (ks.take i).reverse) = _
  have e3 : (0 : Int) + w1 41 = -1 := by decide
  rw [e3, if_neg (by omega), hit_behind _ _ (by omega), ← hgt_rev ks i (by omega)]
  have e4 : loneAt ks i = decide (hgt ks i = 0) := by
    unfold loneAt lone
    rw [hc]
    simp
    exact Bool.beq_eq_decide_eq _ _
  rw [e4, ← decide_not]
  congr 1
  exact propext ⟨fun h => by omega, fun h => by omega⟩
theorem lone_other {ks : List Int} {i : Nat} (hc : ks.getD i 0 ≠ 40) (hc' : ks.getD i 0 ≠ 41) : loneAt ks i = false := by
  unfold loneAt lone
  simp only [Bool.or_eq_false_iff, Bool.and_eq_false_iff, beq_eq_false_iff_ne]
  exact ⟨.inl hc, .inl hc'⟩
theorem hit_next {d c : Int} {r : List Int} {G : Bool} (h : hit d (c :: r) = G) : (d + w1 c = 0 ∧ (c = 40 ∨ c = 41) → G = true) ∧ (¬ (d + w1 c = 0 ∧ (c = 40 ∨ c = 41)) → hit (d + w1 c) r = G) := by
  unfold hit at h
  constructor
  · intro h1; rw [if_pos h1] at h; exact h.symm
  · intro h1; rw [if_neg h1] at h; exact h
/-- what holds between the turns of the law's search -/
def Seek (ks : List Int) (i : Nat) (st d p sp : Int) : Prop :=
  (st = 1 ∧ 0 ≤ sp ∧ sp ≤ ks.length ∨ st = -1 ∧ -1 ≤ sp ∧ sp < ks.length) ∧ d.natAbs + (restOf ks st sp).length ≤ ks.length ∧ -1 ≤ p ∧ p ≤ ks.length ∧
  (p < 0 → hit d (restOf ks st sp) = !loneAt ks i) ∧ (0 ≤ p → (!loneAt ks i) = true)
theorem seek_start {ks : List Int} {i : Nat} {st : Int} (hi : i < ks.length) (h : st = 1 ∧ ks.getD i 0 = 40 ∨ st = -1 ∧ ks.getD i 0 = 41) : Seek ks i st 0 (-1) i := by
  have := restOf_len (ks := ks) (st := st) (sp := i)
  refine ⟨by omega, by omega, by omega, by omega, fun _ => ?_, fun h => by omega⟩
  rcases h with ⟨rfl, h⟩ | ⟨rfl, h⟩
  · exact hit_open hi h
  · exact hit_close hi h
theorem seek_turn {ks : List Int} {i : Nat} {st d p sp d' p' : Int} (g : Seek ks i st d p sp) (h0 : 0 ≤ sp) (h1 : sp < ks.length) (hp : p < 0) (hd : d' = d + w1 (ks.getD sp.toNat 0))
    (hc : (d' = 0 ∧ (ks.getD sp.toNat 0 = 40 ∨ ks.getD sp.toNat 0 = 41)) ∧ p' = sp ∨ ¬ (d' = 0 ∧ (ks.getD sp.toNat 0 = 40 ∨ ks.getD sp.toNat 0 = 41)) ∧ p' = p) :
    Seek ks i st d' p' (sp + st) ∧ (restOf ks st (sp + st)).length < (restOf ks st sp).length := by
  obtain ⟨g1, g2, g3, g4, g5, g6⟩ := g
  have e := restOf_in (ks := ks) (st := st) (sp := sp) (by omega) h0 h1
  have hw : (w1 (ks.getD sp.toNat 0)).natAbs ≤ 1 := by unfold w1; split; decide; split <;> decide
  rw [e, List.length_cons] at g2
  have h5 := g5 hp
  rw [e] at h5
  obtain ⟨n1, n2⟩ := hit_next h5
  rw [← hd] at n1 n2
  have k1 : st = 1 ∧ 0 ≤ sp + st ∧ sp + st ≤ ks.length ∨ st = -1 ∧ -1 ≤ sp + st ∧ sp + st < ks.length := by
    clear hc n1 n2 hd hw g2 g3 g4 g5 g6 h5 hp e
    rcases g1 with ⟨rfl, _, _⟩ | ⟨rfl, _, _⟩
    · exact .inl ⟨rfl, by omega, by omega⟩
    · exact .inr ⟨rfl, by omega, by omega⟩
  have k2 : d'.natAbs + (restOf ks st (sp + st)).length ≤ ks.length := by
    clear hc n1 n2 g1 g3 g4 g5 g6 h5 hp e k1 h0 h1
    generalize w1 (ks.getD sp.toNat 0) = x at *
    generalize (restOf ks st (sp + st)).length = y at *
    omega
  have k3 : -1 ≤ p' ∧ p' ≤ ks.length := by
    clear n1 n2 g1 g2 g5 g6 h5 e k1 k2 hd hw
    rcases hc with ⟨_, rfl⟩ | ⟨_, rfl⟩
    · exact ⟨by omega, by omega⟩
    · exact ⟨g3, g4⟩
  refine ⟨⟨k1, k2, k3.1, k3.2, fun hq => ?_, fun hq => ?_⟩, by rw [e, List.length_cons]; exact Nat.lt_succ_self _⟩
  · rcases hc with ⟨_, rfl⟩ | ⟨h2, rfl⟩
    · exact absurd hq (Int.not_lt.mpr h0)
    · exact n2 h2
  · rcases hc with ⟨h2, rfl⟩ | ⟨_, rfl⟩
    · exact n1 h2
    · exact absurd hp (Int.not_lt.mpr hq)
theorem seek_less {ks : List Int} {i : Nat} {st d p sp : Int} (g : Seek ks i st d p sp) (h0 : 0 ≤ sp) (h1 : sp < ks.length) : (restOf ks st (sp + st)).length < (restOf ks st sp).length := by
  obtain ⟨g1, _⟩ := g
  rw [restOf_in (ks := ks) (st := st) (sp := sp) (by omega) h0 h1, List.length_cons]; omega
theorem seek_found {ks : List Int} {i : Nat} {st d p sp : Int} (g : Seek ks i st d p sp) (hp : ¬ p < 0) : loneAt ks i = false := by
  obtain ⟨_, _, _, _, _, g6⟩ := g
  have := g6 (by omega)
  simpa using this
theorem seek_none {ks : List Int} {i : Nat} {st d p sp : Int} (g : Seek ks i st d p sp) (hp : p < 0) (h : ¬ (0 ≤ sp ∧ sp < ks.length)) : loneAt ks i = true := by
  obtain ⟨g1, _, _, _, g5, _⟩ := g
  have h5 := g5 hp
  rw [restOf_out (by omega) h] at h5
  simpa [hit] using h5.symm
theorem w1_cases (c : Int) : (c = 40 ∧ w1 c = 1) ∨ (c = 41 ∧ w1 c = -1) ∨ (c ≠ 40 ∧ c ≠ 41 ∧ w1 c = 0) := by
  unfold w1
  by_cases c1 : c = 40
  · exact .inl ⟨c1, if_pos c1⟩
  · by_cases c2 : c = 41
    · exact .inr (.inl ⟨c2, by rw [if_neg c1, if_pos c2]⟩)
    · exact .inr (.inr ⟨c1, c2, by rw [if_neg c1, if_neg c2]⟩)
theorem any_yes {c : Int} (h : ([40, 41].any fun x => x == c) = true) : c = 40 ∨ c = 41 := by simp at h; omega
theorem any_no {c : Int} (h : ([40, 41].any fun x => x == c) = false) : c ≠ 40 ∧ c ≠ 41 := by simp at h; omega
theorem loneTo_len (ks : List Int) : ∀ n, (loneTo ks n).length ≤ n
  | 0 => by simp [loneTo]
  | n + 1 => by
    have := loneTo_len ks n
    show (loneTo ks n ++ (if loneAt ks n = true then [(n : Int)] else [])).length ≤ n + 1
    rw [List.length_append]
    split <;> simp <;> omega
/-- a reader of a literal, between its turns -/
def Reading (ks ns : List Int) (pl depth : Int) : Prop :=
  (depth = 0 ∧ ns = ks ∧ pl = (lit ks).length) ∨
  (∃ (A r : List Int) (h : Nat), lit ks = A ++ (litB h r ++ [41]) ∧ pl = A.length ∧ 1 ≤ A.length ∧ ks = ns ++ r ∧ depth = 1 + ((min h (reach r) : Nat) : Int))
theorem read_start (ks : List Int) : Reading ks [] 1 1 := .inr ⟨[40], ks, 0, rfl, by simp, by simp, by simp, by simp⟩
theorem getD_at {A B : List Int} {c : Int} : (A ++ c :: B).getD A.length 0 = c := by simp
theorem getD_at1 {A B : List Int} {c e : Int} : (A ++ c :: e :: B).getD (A.length + 1) 0 = e := by
  have : A ++ c :: e :: B = (A ++ [c]) ++ e :: B := by simp
  rw [this]
  have h2 : A.length + 1 = (A ++ [c]).length := by simp
  rw [h2]; exact getD_at
theorem read_cases {ks ns : List Int} {pl depth : Int} (g : Reading ks ns pl depth) (hd : 0 < depth) :
    1 ≤ pl ∧ pl < (lit ks).length ∧ depth ≤ 1 + ks.length ∧ ns.length ≤ ks.length ∧
    ((pl + 1 < (lit ks).length ∧ (lit ks).getD pl.toNat 0 = 92 ∧ Reading ks (ns ++ [if (lit ks).getD (pl + 1).toNat 0 = 114 then 13 else (lit ks).getD (pl + 1).toNat 0]) (pl + 2) depth) ∨
     (pl + 1 = (lit ks).length ∧ (lit ks).getD pl.toNat 0 = 41 ∧ depth = 1 ∧ ns = ks) ∨
     ((lit ks).getD pl.toNat 0 ≠ 92 ∧ (lit ks).getD pl.toNat 0 ≠ 13 ∧ ¬ ((lit ks).getD pl.toNat 0 = 41 ∧ depth = 1) ∧ Reading ks (ns ++ [(lit ks).getD pl.toNat 0]) (pl + 1) (depth + w1 ((lit ks).getD pl.toNat 0)) ∧ 0 < depth + w1 ((lit ks).getD pl.toNat 0))) := by
  rcases g with ⟨rfl, _⟩ | ⟨A, r, h, e, rfl, hA, hk, rfl⟩
  · omega
  have hlen : (lit ks).length = A.length + (litB h r).length + 1 := by rw [e]; simp; omega
  have hn : ns.length ≤ ks.length := by rw [hk]; simp
  have hre : ∀ r : List Int, reach r ≤ r.length := by
    intro r
    induction r with
    | nil => simp [reach]
    | cons c r ih => unfold reach; split; simp; omega; split <;> simp <;> omega
  have hdep : (1 : Int) + ((min h (reach r) : Nat) : Int) ≤ 1 + ks.length := by
    have h1 := hre r
    have h2 : r.length ≤ ks.length := by rw [hk]; simp
    omega
  refine ⟨by omega, by omega, hdep, hn, ?_⟩
  have e1 : ((A.length : Int)).toNat = A.length := by omega
  have e2 : ((A.length : Int) + 1).toNat = A.length + 1 := by omega
  rw [e1, e2]
  cases r with
  | nil =>
    refine .inr (.inl ⟨?_, ?_, ?_, ?_⟩)
    · rw [hlen]; simp [litB]
    · rw [e]; simp [litB]
    · simp [reach]
    · rw [hk]; simp
  | cons c r =>
    have esc : (c = 13 ∨ c = 92 ∨ lone h c r = true) → ∃ x, litB h (c :: r) = 92 :: x :: litB (step h c) r ∧ (if x = 114 then (13 : Int) else x) = c := by
      intro hc
      by_cases c1 : c = 13
      · exact ⟨114, by simp [litB, c1], by simp [c1]⟩
      · have hc' : c = 92 ∨ lone h c r = true := by rcases hc with h | h | h; exact absurd h c1; exact .inl h; exact .inr h
        refine ⟨c, ?_, ?_⟩
        · simp only [litB, if_neg c1, if_pos hc']; rfl
        · refine if_neg fun h2 => ?_
          subst h2
          rcases hc' with h3 | h3
          · omega
          · simp [lone] at h3
    by_cases hc : c = 13 ∨ c = 92 ∨ lone h c r = true
    · obtain ⟨x, ex, ev⟩ := esc hc
      rw [ex] at e hlen
      refine .inl ⟨?_, ?_, ?_⟩
      · rw [hlen]; simp; omega
      · rw [e]; exact getD_at
      · have e3 : (lit ks).getD (A.length + 1) 0 = x := by rw [e]; exact getD_at1
        rw [e3, ev]
        refine .inr ⟨A ++ [92, x], r, step h c, ?_, by simp, by simp, by rw [hk]; simp, ?_⟩
        · rw [e]; simp
        · congr 2
          rcases hc with h1 | h1 | h1
          · subst h1; simp [reach, step]
          · subst h1; simp [reach, step]
          · simp only [lone, Bool.or_eq_true, Bool.and_eq_true, beq_iff_eq] at h1
            rcases h1 with ⟨h1, h2⟩ | ⟨h1, h2⟩
            · subst h1; simp [reach, step, h2]
            · subst h1; simp [reach, step, h2]
    · have c1 : ¬ c = 13 := fun h => hc (.inl h)
      have c2 : ¬ (c = 92 ∨ lone h c r = true) := fun h => hc (.inr h)
      have ex : litB h (c :: r) = c :: litB (step h c) r := by simp only [litB, if_neg c1, if_neg c2]; rfl
      have c3 : c ≠ 92 := fun h => c2 (.inl h)
      have c4 : lone h c r = false := by
        cases hl : lone h c r with
        | false => rfl
        | true => exact absurd (.inr hl) c2
      simp only [lone, Bool.or_eq_false_iff, Bool.and_eq_false_iff, beq_eq_false_iff_ne, ne_eq] at c4
      rw [ex] at e
      have e3 : (lit ks).getD A.length 0 = c := by rw [e]; exact getD_at
      rw [e3]
      refine .inr (.inr ⟨c3, c1, ?_, ?_, ?_⟩)
      · rintro ⟨h1, h2⟩
        subst h1
        have : reach (41 :: r) = reach r + 1 := by simp [reach]
        rw [this] at h2
        omega
      · refine .inr ⟨A ++ [c], r, step h c, ?_, by simp, by simp, by rw [hk]; simp, ?_⟩
        · rw [e]; simp
        · unfold w1 step
          by_cases d1 : c = 40
          · subst d1
            have : reach (40 :: r) = reach r - 1 := by simp [reach]
            rw [this]; simp only [if_true]; omega
          · by_cases d2 : c = 41
            · subst d2
              have : reach (41 :: r) = reach r + 1 := by simp [reach]
              rw [this, if_neg d1, if_neg d1, if_pos rfl, if_pos rfl]; omega
            · have : reach (c :: r) = reach r := by simp [reach, d1, d2]
              rw [this, if_neg d1, if_neg d1, if_neg d2, if_neg d2]; omega
      · unfold w1
        by_cases d1 : c = 40
        · rw [if_pos d1]; omega
        · by_cases d2 : c = 41
          · subst d2
            have : reach (41 :: r) = reach r + 1 := by simp [reach]
            rw [this, if_neg d1, if_pos rfl]; omega
          · rw [if_neg d1, if_neg d2]; omega
theorem read_end {ks ns : List Int} {pl : Int} (g : Reading ks ns pl 0) : ns = ks ∧ pl = (lit ks).length := by
  rcases g with ⟨_, h⟩ | ⟨A, r, h, e, rfl, hA, hk, hd⟩
  · exact h
  · omega
theorem lit_length (ks : List Int) : (lit ks).length ≤ 2 + 2 * ks.length := by
  rw [← lit_is]
  have := litTo_len ks ks.length
  simp; omega
theorem sorted_unique {l l' : List Int} (hp : l.Perm l') (h : l.Pairwise (· ≤ ·)) (h' : l'.Pairwise (· < ·)) : l = l' :=
  hp.eq_of_pairwise (le := (· ≤ ·)) (fun a b _ _ h1 h2 => by omega) h (h'.imp fun h => by omega)
end Mine
end

section
namespace Mine
def escG (l : List Int) (k : Int) : List Int := if k = 92 ∨ k = 13 then l ++ [k] else l
def escC : List Int → Nat
  | [] => 0
  | c :: r => (if c = 92 ∨ c = 13 then 1 else 0) + escC r
theorem esc_fold : ∀ (r l : List Int), (r.foldl (fun l k => if k = 92 ∨ k = 13 then l ++ [k] else l) l).length = l.length + escC r
  | [], l => by simp [escC]
  | c :: r, l => by
    show (r.foldl _ (if c = 92 ∨ c = 13 then l ++ [c] else l)).length = _
    rw [esc_fold r]
    simp only [escC]
    by_cases e : c = 92 ∨ c = 13
    · rw [if_pos e, if_pos e, List.length_append, List.length_singleton]; omega
    · rw [if_neg e, if_neg e]; omega
theorem escC_le : ∀ r : List Int, escC r ≤ r.length
  | [] => by simp [escC]
  | c :: r => by
    have := escC_le r
    unfold escC
    simp only [List.length_cons]
    split <;> omega
theorem litB_len : ∀ (r : List Int) (i : Int) (h : Nat), (litB h r).length = r.length + (loneL i h r).length + escC r
  | [], i, h => by simp [litB, loneL, escC]
  | c :: r, i, h => by
    have e := litB_len r (i + 1) (step h c)
    simp only [litB, loneL, escC, List.length_append, List.length_cons, e]
    by_cases c1 : c = 13
    · subst c1
      have : lone h 13 r = false := by unfold lone; simp
      simp [this]; omega
    · by_cases c2 : c = 92
      · subst c2
        have : lone h 92 r = false := by unfold lone; simp
        simp [this]; omega
      · by_cases c3 : lone h c r = true
        · simp [c1, c2, c3]; omega
        · simp [c1, c2, c3]; omega
theorem escs_is (ks : List Int) : ∃ es, ks.foldl (fun l k => if k = 92 ∨ k = 13 then l ++ [k] else l) [] = es ∧ es.length ≤ ks.length ∧ (lit ks).length = ks.length + 2 + (loneTo ks ks.length).length + es.length := by
  refine ⟨_, rfl, ?_, ?_⟩
  · rw [esc_fold]
    have := escC_le ks
    simp only [List.length_nil]
    omega
  · rw [esc_fold, loneTo_all]
    unfold lit
    simp only [List.length_cons, List.length_append, List.length_nil, litB_len ks 0 0]
    omega
theorem reach_more (o : List Int) : ∀ r : List Int, reach r ≤ reach (r ++ o)
  | [] => by simp [reach]
  | c :: r => by
    have := reach_more o r
    simp only [List.cons_append, reach]
    split
    · omega
    · split <;> omega
theorem no_lone_end : ∀ (r : List Int) (i : Int) (h : Nat), loneL i h r = [] → h ≤ reach r → r.foldl step h = 0
  | [], i, h, _, hr => by
    have : reach [] = 0 := rfl
    simp only [List.foldl_nil]; omega
  | c :: r, i, h, e, hr => by
    simp only [loneL, List.append_eq_nil_iff] at e
    obtain ⟨e1, e2⟩ := e
    have e3 : ¬ lone h c r = true := by intro x; rw [if_pos x] at e1; cases e1
    simp only [List.foldl_cons]
    refine no_lone_end r (i + 1) (step h c) e2 ?_
    unfold lone at e3
    unfold reach at hr
    unfold step
    by_cases c1 : c = 40
    · subst c1
      simp at e3 hr ⊢
      omega
    · by_cases c2 : c = 41
      · subst c2
        simp at e3 hr ⊢
        omega
      · simp [c1, c2] at hr ⊢
        exact hr
theorem litB_split (o : List Int) : ∀ (r : List Int) (i : Int) (h : Nat), loneL i h r = [] → litB h (r ++ o) = litB h r ++ litB (r.foldl step h) o
  | [], i, h, _ => by simp [litB]
  | c :: r, i, h, e => by
    simp only [loneL, List.append_eq_nil_iff] at e
    obtain ⟨e1, e2⟩ := e
    have e3 : ¬ lone h c r = true := by intro x; rw [if_pos x] at e1; cases e1
    have e4 : ¬ lone h c (r ++ o) = true := by
      have := reach_more o r
      unfold lone at e3 ⊢
      simp only [Bool.or_eq_true, Bool.and_eq_true, beq_iff_eq] at e3 ⊢
      omega
    simp only [List.cons_append, litB, List.foldl_cons, litB_split o r (i + 1) (step h c) e2, e3, e4, List.append_assoc]
theorem lit_split {one other : List Int} (h : loneTo one one.length = []) : lit (one ++ other) = (lit one).dropLast ++ (lit other).tail := by
  rw [loneTo_all] at h
  unfold lit
  rw [litB_split other one 0 0 h, no_lone_end one 0 0 h (Nat.zero_le _)]
  have e : (40 :: (litB 0 one ++ [41])).dropLast = 40 :: litB 0 one := by
    rw [← List.cons_append, List.dropLast_concat]
  rw [e]
  simp
theorem lit_first (ks : List Int) : List.take (PySem.clipAt (lit ks).length 1) (lit ks) = [40] := by
  have : PySem.clipAt (lit ks).length 1 = 1 := by
    have h : 1 ≤ (lit ks).length := by unfold lit; simp
    simp only [PySem.clipAt]
    omega
  rw [this]
  rfl
end Mine
end

section
namespace Mine
theorem read_esc {ks ns : List Int} {pl depth : Int} (g : Reading ks ns pl depth) (hd : 0 < depth) (h92 : (lit ks).getD pl.toNat 0 = 92) :
    (lit ks).getD (pl + 1).toNat 0 = 114 ∨ (lit ks).getD (pl + 1).toNat 0 = 92 ∨ (lit ks).getD (pl + 1).toNat 0 = 40 ∨ (lit ks).getD (pl + 1).toNat 0 = 41 := by
  rcases g with ⟨rfl, _⟩ | ⟨A, r, h, e, rfl, hA, hk, rfl⟩
  · omega
  have e1 : ((A.length : Int)).toNat = A.length := by omega
  have e2 : ((A.length : Int) + 1).toNat = A.length + 1 := by omega
  rw [e1] at h92
  rw [e2]
  cases r with
  | nil =>
    rw [e] at h92
    simp [litB] at h92
  | cons c r =>
    by_cases c1 : c = 13
    · have ex : litB h (c :: r) = 92 :: 114 :: litB (step h c) r := by simp [litB, c1]
      rw [ex] at e
      left
      rw [e]; exact getD_at1
    · by_cases c2 : c = 92 ∨ lone h c r = true
      · have ex : litB h (c :: r) = 92 :: c :: litB (step h c) r := by simp only [litB, if_neg c1, if_pos c2]; rfl
        rw [ex] at e
        have e3 : (lit ks).getD (A.length + 1) 0 = c := by rw [e]; exact getD_at1
        rw [e3]
        rcases c2 with h1 | h1
        · exact .inr (.inl h1)
        · simp only [lone, Bool.or_eq_true, Bool.and_eq_true, beq_iff_eq] at h1
          omega
      · have ex : litB h (c :: r) = c :: litB (step h c) r := by simp only [litB, if_neg c1, if_neg c2]; rfl
        rw [ex] at e
        rw [e] at h92
        have e3 : (A ++ ((c :: litB (step h c) r) ++ [41])).getD A.length 0 = c := getD_at
        rw [e3] at h92
        exact absurd (.inl h92) c2
theorem lex_at (ks : List Int) {i : Nat} (h : i < (lit ks).length) : (lit ks ++ [55]).getD i 0 = (lit ks).getD i 0 := by
  simp [List.getD, List.getElem?_append_left h]
theorem read_lex {ks ns E : List Int} {pl depth : Int} (hE : lit ks ++ [55] = E) (g : Reading ks ns pl depth) (hd : 0 < depth) :
    1 ≤ pl ∧ pl + 1 < E.length ∧ depth ≤ 1 + ks.length ∧ ns.length ≤ ks.length ∧
    ((pl + 2 < E.length ∧ E.getD pl.toNat 0 = 92 ∧ ((E.getD (pl + 1).toNat 0 = 114 ∧ Reading ks (ns ++ [13]) (pl + 2) depth) ∨
        ((E.getD (pl + 1).toNat 0 = 92 ∨ E.getD (pl + 1).toNat 0 = 40 ∨ E.getD (pl + 1).toNat 0 = 41) ∧ Reading ks (ns ++ [E.getD (pl + 1).toNat 0]) (pl + 2) depth))) ∨
     (E.getD pl.toNat 0 = 41 ∧ depth = 1 ∧ ns = ks) ∨
     (E.getD pl.toNat 0 ≠ 92 ∧ E.getD pl.toNat 0 ≠ 13 ∧ ¬ (E.getD pl.toNat 0 = 41 ∧ depth = 1) ∧ Reading ks (ns ++ [E.getD pl.toNat 0]) (pl + 1) (depth + w1 (E.getD pl.toNat 0)) ∧ 0 < depth + w1 (E.getD pl.toNat 0))) := by
  subst hE
  obtain ⟨r1, r2, r3, r4, rc⟩ := read_cases g hd
  have e1 := lex_at ks (i := pl.toNat) (by omega)
  rw [e1]
  have el : (lit ks ++ [55]).length = (lit ks).length + 1 := by simp
  rw [el]
  refine ⟨r1, by omega, r3, r4, ?_⟩
  rcases rc with ⟨q1, q2, q3⟩ | ⟨q1, q2, q3, q4⟩ | q
  · have e2 := lex_at ks (i := (pl + 1).toNat) (by omega)
    rw [e2]
    refine .inl ⟨by omega, q2, ?_⟩
    rcases read_esc g hd q2 with h | h | h | h
    · rw [h, if_pos rfl] at q3
      exact .inl ⟨h, q3⟩
    · rw [h, if_neg (by decide)] at q3
      rw [h]
      exact .inr ⟨.inl rfl, q3⟩
    · rw [h, if_neg (by decide)] at q3
      rw [h]
      exact .inr ⟨.inr (.inl rfl), q3⟩
    · rw [h, if_neg (by decide)] at q3
      rw [h]
      exact .inr ⟨.inr (.inr rfl), q3⟩
  · exact .inr (.inl ⟨q2, q3, q4⟩)
  · exact .inr (.inr q)
end Mine
end

section
set_option maxRecDepth 100000
namespace Mine
theorem lit_pos (ks : List Int) : 2 ≤ (lit ks).length := by
  unfold lit
  simp
theorem clip_end {n : Nat} (h : 1 ≤ n) : PySem.clipAt n (-1) = n - 1 := by
  unfold PySem.clipAt
  rw [if_pos (by decide)]
  omega
theorem clip_start {n : Nat} (h : 1 ≤ n) : PySem.clipAt n 1 = 1 := by
  unfold PySem.clipAt
  rw [if_neg (by decide)]
  omega
theorem lit_cut {one other : List Int} (h : loneTo one one.length = []) :
    lit (one ++ other) = List.take (PySem.clipAt (lit one).length (-1)) (lit one) ++ List.take ((lit other).length - PySem.clipAt (lit other).length 1) (List.drop (PySem.clipAt (lit other).length 1) (lit other)) := by
  have a := lit_pos one
  have b := lit_pos other
  rw [lit_split h, clip_end (by omega), clip_start (by omega), ← List.dropLast_eq_take, List.drop_one]
  rw [List.take_of_length_le (by rw [List.length_tail]; omega)]
end Mine
end

section
open PySem PySem.W PySem.Calls PyProof.Rows PyProof.V PySem.Spec
set_option Elab.async false
set_option maxRecDepth 100000
namespace Mine

abbrev Led := List (Addr × Obj)
/-- a contract: called with vs upon the objects news, the def gives r and the objects news' by post; every other object is kept -/
def Contract (w : World) (k : Nat) (f : Addr) (vs : List Value) (news : Led) (post : Value → Led → Prop) : Prop :=
  ∀ (mean : ExcName → Option Value) (mg mb : Str → Option Value) (A A₀ : Around) (env : Env) (outer : List Env) (base h₀ : Heap) (L : Addr) (m : Str → Option Value) (s : Shared) (R : Result → Shared → Prop),
    Below A₀ base outer h₀ → Fr h₀ L s.heap m → (hd.heap_39 w.params).In h₀ → News h₀ L s.heap news → Top hd.view_39 (looseW hd.view_39 [Str.ofString "PaperError", Str.ofString "name_text"]) mean mg mb h₀ →
    A.frames = some (env :: outer) → env.frame = some L → env.scope.kind = .function → A.handled = none →
    A.depth + k < 900 → A.units + 8 * k < 9000 →
    (∀ r h' tk' news', Fr h₀ L h' m → News h₀ L h' news' → (∀ b o, s.heap.get? b = some o → b ∉ news.map (·.1) → h'.get? b = some o) →
      (∀ p ∈ news', p.1 ∈ news.map (·.1) ∨ s.heap.get? p.1 = none) → post r news' → R (.ok (.ret r)) { s with heap := h', toks := tk' }) →
    codeAny (model PySem.Challenge.rw_og0184_01.row.prog w) A (.call (.ref f) ⟨vs, []⟩) R s
/-- what is to be shown of the def's block -/
def Body (w : World) (k : Nat) (f : Addr) (qual : Str) (scope : Scope) (cdv : Value) (body : List Stmt) (binds : List (Str × Value)) (news : Led) (post : Value → Led → Prop) : Prop :=
  ∀ (mean : ExcName → Option Value) (mg mb : Str → Option Value) (dp un : Nat) (gd : Option (List Code)) (outer : List Env) (A₀ : Around) (base h₀ : Heap) (L : Addr) (s : Shared) (Q : Flow → Shared → Prop),
    Below A₀ base outer h₀ → (hd.heap_39 w.params).In h₀ → Top hd.view_39 (looseW hd.view_39 [Str.ofString "PaperError", Str.ofString "name_text"]) mean mg mb h₀ →
    Fr h₀ L s.heap (fun y => binds.reverse.lookup y) → News h₀ L s.heap news →
    dp + k < 900 → un + 8 * k < 9000 →
    (∀ r h' tk' m' news', Fr h₀ L h' m' → News h₀ L h' news' → post r news' → Q (.ret r) { s with heap := h', toks := tk' }) →
    (∀ h' tk' m' news', Fr h₀ L h' m' → News h₀ L h' news' → post .none news' → Q .next { s with heap := h', toks := tk' }) →
    wpAny (model PySem.Challenge.rw_og0184_01.row.prog w) (ktrTop dp un gd qual scope L f cdv [] outer) (execs body (envX qual scope L f cdv [])) Q (fun _ _ => False) s

theorem contract_of {w : World} {k : Nat} {f : Addr} {vs : List Value} {news : Led} {post : Value → Led → Prop}
    {name qual : Str} {params : Arguments} {body : List Stmt} {scope : Scope} {dV kV doc pm cdv ct oc : Value} {an od : Option Addr} {osl : Array (Option Value)} (binds : List (Str × Value))
    (ho : (hd.heap_39 w.params).lookup f = some ⟨oc, od, .func (fnOf name qual params body scope dV kV doc pm an cdv ct), osl⟩)
    (hcd : codeIn (hd.heap_39 w.params) cdv qual = true)
    (hbind : ∀ s : Shared, (hd.heap_39 w.params).In s.heap → BindsTo s (fnOf name qual params body scope dV kV doc pm an cdv ct) ⟨vs, []⟩ binds)
    (hloc : ∀ y ∈ binds, scope.names.lookup y.1 = some .local)
    (hco : scope.isCoroutine = false) (hgen : scope.isGenerator = false) (hk : scope.kind = .function) (hcell : ∀ x ∈ scope.names, x.2 ≠ .cell)
    (h : Body w k f qual scope cdv body binds news post) : Contract w (k + 1) f vs news post := by
  intro mean mg mb A A₀ env outer base h₀ L m s R B F X N T hA hf hke hh hd hu hret
  refine code_defG B F X N T hA hf hke ho hcd (by unfold recursionLimit; omega) (hbind s (X.keeps F.keep)) hloc ?_ hco hgen hk hcell
  intro g L' h₁ FG F' N' B' X' T' G'
  have eA : A.deeper (envOf qual scope L' f cdv) = ktrTop (A.depth + 1) (A.units + 3) A.guards qual scope L' f cdv [] (env :: outer) := by
    cases A
    simp only [] at hA hh
    subst hA hh
    rfl
  rw [eA]
  have fin : ∀ r h' tk' m' news', Fr g L' h' m' → News g L' h' news' → post r news' → LeaveK h₀ L m g R r { s with heap := h', toks := tk' } := by
    intro r h' tk' m' news' F9 N9 hp
    refine leaveK_ F9 N9 fun F8 N8 => hret r h' tk' news' F8 N8 ?_ ?_ hp
    · intro b o e hb
      exact F9.keep b o (G' b o e hb)
    · intro p hp'
      by_cases hb : p.1 ∈ news.map (·.1)
      · exact .inl hb
      · refine .inr ?_
        cases hq : s.heap.get? p.1 with
        | none => rfl
        | some o =>
          have h1 := G' p.1 o hq hb
          rw [(N9 p hp').2.2] at h1
          cases h1
  refine wpAny_noRaise (h mean mg mb (A.depth + 1) (A.units + 3) A.guards (env :: outer) A base g L' _ _ B' X' T' F' N' (by omega) (by omega) ?_ ?_)
  · intro r h' tk' m' news' F9 N9 hp
    exact fin r h' tk' m' news' F9 N9 hp
  · intro h' tk' m' news' F9 N9 hp
    exact fin _ h' tk' m' news' F9 N9 hp

theorem Contract.mono {w : World} {k : Nat} {f : Addr} {vs : List Value} {news : Led} {post post' : Value → Led → Prop} (C : Contract w k f vs news post) (h : ∀ r n, post r n → post' r n) : Contract w k f vs news post' := by
  intro mean mg mb A A₀ env outer base h₀ L m s R B F X N T hA hf hke hh hd hu hret
  exact C mean mg mb A A₀ env outer base h₀ L m s R B F X N T hA hf hke hh hd hu fun r h' tk' news' F' N' k1 k2 hp => hret r h' tk' news' F' N' k1 k2 (h _ _ hp)

/-- the code, framed: rest is what the caller keeps besides -/
theorem Contract.code {w : World} {k : Nat} {f : Addr} {vs : List Value} {news : Led} {post : Value → Led → Prop} (C : Contract w k f vs news post) (rest : Led)
    {mean : ExcName → Option Value} {mg mb : Str → Option Value} {A A₀ : Around} {env : Env} {outer : List Env} {base h₀ : Heap} {L : Addr} {m : Str → Option Value} {s : Shared} {R : Result → Shared → Prop} {all : Led}
    (B : Below A₀ base outer h₀) (F : Fr h₀ L s.heap m) (X : (hd.heap_39 w.params).In h₀) (N : News h₀ L s.heap all) (T : Top hd.view_39 (looseW hd.view_39 [Str.ofString "PaperError", Str.ofString "name_text"]) mean mg mb h₀)
    (hA : A.frames = some (env :: outer)) (hf : env.frame = some L) (hk : env.scope.kind = .function) (hh : A.handled = none) (hd : A.depth + k < 900) (hu : A.units + 8 * k < 9000)
    (hsub : ∀ p ∈ news, p ∈ all) (hrest : ∀ p ∈ rest, p ∈ all) (hoff : ∀ p ∈ rest, p.1 ∉ news.map (·.1))
    (ret : ∀ r h' tk' news', Fr h₀ L h' m → News h₀ L h' (news' ++ rest) → (∀ p ∈ news', ∀ q ∈ rest, p.1 ≠ q.1) → post r news' → R (.ok (.ret r)) { s with heap := h', toks := tk' }) :
    codeAny (model PySem.Challenge.rw_og0184_01.row.prog w) A (.call (.ref f) ⟨vs, []⟩) R s := by
  refine C mean mg mb _ _ _ _ _ _ _ _ _ _ B F X (fun p hp => N p (hsub p hp)) T hA hf hk hh hd hu ?_
  intro r h' tk' news' F' N' hkeep hnew hp
  refine ret r h' tk' news' F' (fun p hp => ?_) (fun p hp q hq e => ?_) hp
  · rcases List.mem_append.mp hp with h1 | h1
    · exact N' p h1
    · have h2 := N p (hrest p h1)
      exact ⟨hkeep _ _ h2.1 (hoff p h1), h2.2⟩
  · rcases hnew p hp with h1 | h1
    · exact hoff q hq (e ▸ h1)
    · have h2 := (N q (hrest q hq)).1
      rw [← e, h1] at h2
      cases h2

theorem Contract.use {w : World} {k : Nat} {f : Addr} {vs : List Value} {news : Led} {post : Value → Led → Prop} (C : Contract w k f vs news post) (rest : Led)
    {mean : ExcName → Option Value} {mg mb : Str → Option Value} {dp un : Nat} {gd : Option (List Code)} {cn : Str} {cs : Scope} {a : Addr} {ccd : Value} {cl : List (Str × Addr)} {outer : List Env} {A₀ : Around} {base h₀ : Heap} {L : Addr} {m : Str → Option Value} {s : Shared} {Q E : Value → Shared → Prop} {all : Led}
    (B : Below A₀ base outer h₀) (F : Fr h₀ L s.heap m) (X : (hd.heap_39 w.params).In h₀) (N : News h₀ L s.heap all) (T : Top hd.view_39 (looseW hd.view_39 [Str.ofString "PaperError", Str.ofString "name_text"]) mean mg mb h₀)
    (hk : cs.kind = .function) (hd : dp + k < 900) (hu : un + 8 * k < 9000)
    (hsub : ∀ p ∈ news, p ∈ all) (hrest : ∀ p ∈ rest, p ∈ all) (hoff : ∀ p ∈ rest, p.1 ∉ news.map (·.1))
    (ret : ∀ r h' tk' news', Fr h₀ L h' m → News h₀ L h' (news' ++ rest) → (∀ p ∈ news', ∀ q ∈ rest, p.1 ≠ q.1) → post r news' → Q r { s with heap := h', toks := tk' }) :
    wpAny (model PySem.Challenge.rw_og0184_01.row.prog w) (ktrTop dp un gd cn cs L a ccd cl outer) (call (.ref f) vs) Q E s :=
  wpAny_call (C.code rest B F X N T rfl rfl hk rfl hd hu hsub hrest hoff ret)

/-- a def that asks nothing of the ledger -/
theorem Contract.use0 {w : World} {k : Nat} {f : Addr} {vs : List Value} {post : Value → Led → Prop} (C : Contract w k f vs [] post)
    {mean : ExcName → Option Value} {mg mb : Str → Option Value} {dp un : Nat} {gd : Option (List Code)} {cn : Str} {cs : Scope} {a : Addr} {ccd : Value} {cl : List (Str × Addr)} {outer : List Env} {A₀ : Around} {base h₀ : Heap} {L : Addr} {m : Str → Option Value} {s : Shared} {Q E : Value → Shared → Prop} {all : Led}
    (B : Below A₀ base outer h₀) (F : Fr h₀ L s.heap m) (X : (hd.heap_39 w.params).In h₀) (N : News h₀ L s.heap all) (T : Top hd.view_39 (looseW hd.view_39 [Str.ofString "PaperError", Str.ofString "name_text"]) mean mg mb h₀)
    (hk : cs.kind = .function) (hd : dp + k < 900) (hu : un + 8 * k < 9000)
    (ret : ∀ r h' tk' news', Fr h₀ L h' m → News h₀ L h' (news' ++ all) → (∀ p ∈ news', ∀ q ∈ all, p.1 ≠ q.1) → post r news' → Q r { s with heap := h', toks := tk' }) :
    wpAny (model PySem.Challenge.rw_og0184_01.row.prog w) (ktrTop dp un gd cn cs L a ccd cl outer) (call (.ref f) vs) Q E s :=
  C.use all B F X N T hk hd hu (fun _ h => nomatch h) (fun _ h => h) (fun _ _ h => nomatch h) ret
end Mine
namespace Mine
/-- a step that is held for the hand -/
structure Hold (p : Prop) : Prop where
  go :: (out : p)
theorem hold_of {p : Prop} (h : Hold p) : p := h.out
end Mine
end

section
open PySem PySem.W PySem.Calls PyProof.Rows PyProof.V PySem.Spec
set_option Elab.async false
set_option maxRecDepth 100000
namespace Mine
abbrev tts (kk : List Int) : List (PyData × PyData) := kk.map fun k => (.int k, .bool true)
theorem tts_put {kk : List Int} {k : Int} (hn : k ∉ kk) : putD (PyData.int k) (PyData.bool true) (tts kk) = tts (kk ++ [k]) := by
  unfold putD
  have h1 : ((tts kk).any fun p => PySem.Spec.same p.1 (PyData.int k)) = false := by
    rw [List.any_eq_false]
    intro p hp
    obtain ⟨j, hj, rfl⟩ := List.mem_map.mp hp
    rw [PyProof.V.same_int]
    have : j ≠ k := fun e => hn (e ▸ hj)
    simp [this]
  rw [h1]
  simp [tts]
theorem tts_isSome (k : Int) : ∀ kk : List Int, (PySem.Spec.lookup (PyData.int k) (tts kk)).isSome = decide (k ∈ kk)
  | [] => by simp [tts]; rfl
  | i :: c => by
    show (if PySem.Spec.same (PyData.int i) (PyData.int k) = true then some (PyData.bool true) else PySem.Spec.lookup (PyData.int k) (tts c)).isSome = decide (k ∈ i :: c)
    rw [PyProof.V.same_int]
    by_cases h : i = k
    · simp [h]
    · rw [if_neg (by simp [h]), tts_isSome k c]
      have h2 : k ≠ i := fun e => h e.symm
      simp [h2]
section
variable {prog : Program} {w : World} {A : Around} {E : Value → Shared → Prop} {s : Shared} {h₀ : Heap} {L d : Addr} {m : Str → Option Value} {news : List (Addr × Obj)} {u : Obj → List (Addr × Obj)} {o : Obj} {kvs : List (Int × Value)} {kk : List Int} {k : Int} {tk : Tok}
theorem put_true {Q : Unit → Shared → Prop} (F : Fr h₀ L s.heap m) (N : News h₀ L s.heap news) (U : UpdF d o news u) (hd : o.IsDictOf (PySem.intKind prog w) kvs) (hf : FlatPairs PyData.int kvs (tts kk)) (hz : kk.length ≤ 1000) (hn : k ∉ kk)
    (h : ∀ h' o' kvs', Fr h₀ L h' m → News h₀ L h' (u o') → o'.IsDictOf (PySem.intKind prog w) kvs' → FlatPairs PyData.int kvs' (tts (kk ++ [k])) → Q () { s with heap := h', toks := s.toks + 1 }) :
    wpAny (model prog w) A (setItem (.ref d) (.int k tk) (.bool true)) Q E s :=
  setItem_K PyProof.V.same_int (intKind_is _ _ _ _) (PyProof.V.Flat.bool true) F N U hd hf (fun h' o' F' N' a b => h h' o' _ F' N' a (by rw [← tts_put hn]; exact b)) (by rw [List.length_map, sizeLine_eq]; omega)
theorem in_true {Q : Value → Shared → Prop} (N : News h₀ L s.heap news) (hm : (d, o) ∈ news) (hs : (d == sysModules) = false) (hd : o.IsDictOf (PySem.intKind prog w) kvs) (hf : FlatPairs PyData.int kvs (tts kk)) (h : Q (.bool (decide (k ∈ kk))) { s with toks := s.toks + 1 }) :
    wpAny (model prog w) A (compareOp .In (.int k tk) (.ref d)) Q E s :=
  in_intTab (D := tts kk) (TabAt.ofNews N hm hs hd hf) (by rw [tts_isSome]; exact h)
end
end Mine
end

section
open PySem PySem.W PySem.Calls PyProof.Rows PyProof.V PySem.Spec
set_option Elab.async false
set_option maxRecDepth 100000
namespace Mine
theorem no_names {α : Type} {P : α → Prop} : ∀ p ∈ ([] : List α), P p := fun _ h => nomatch h
theorem news_head {h₀ h : Heap} {L : Addr} {x : Addr × Obj} {r : Led} (N : News h₀ L h (x :: r)) : News h₀ L h [x] := fun p hp => N p (by rw [List.mem_singleton.mp hp]; exact .head _)
theorem cr_ints : KBw.bInts #[92, 114] = [92, 114] := by decide
section
variable {prog : Program} {w : World} {A : Around} {E : Value → Shared → Prop} {s : Shared} {h₀ : Heap} {L D b : Addr} {m : Str → Option Value} {news news' : List (Addr × Obj)}
/-- a list grown by a written list -/
theorem ext_list {vs ws : List Value} {n n2 : Nat} {Q : Value → Shared → Prop} (F : Fr h₀ L s.heap m) (N : News h₀ L s.heap news) (hb : (b, listOf ws.toArray n2) ∈ news) (hz : vs.length ≤ 10000) (hz2 : ws.length ≤ 10000) (hne : ws.length ≠ 0)
    (U : Upd D (listOf vs.toArray n) (listOf (vs ++ ws).toArray (n + 1)) news news')
    (h : ∀ h', Fr h₀ L h' m → News h₀ L h' news' → Q .none { s with heap := h' }) :
    wpAny (model prog w) A (call (.builtin "list.extend") [.ref D, .ref b]) Q E s := by
  refine kl_extend F N hb (by simp) (by simpa using hne) U ?_ ?_ ?_ h
  · refine extend_door ?_
    rw [List.size_toArray, List.size_toArray, sizeLine_eq]; omega
  · rw [sizeLine_eq]; simp; omega
  · rw [List.size_toArray, List.size_toArray, sizeLine_eq]; omega

theorem hint_bytes {x : Array UInt8} {t : Tok} {Q : Bool → Shared → Prop} (h : Q false s) : wpAny (model prog w) A (Builtin.List.listLengthHint (.bytes x t)) Q E s := by
  unfold Builtin.List.listLengthHint
  refine wpAny_bind (wpAny_specialOf (typeIs_bytes s x t) FB.slot_bytes_len.lookup ?_)
  generalize hid : ("bytes.__len__" : String) = id0
  wp_delta
  rw [show splitId id0 = some ("bytes", "__len__") from by subst hid; decide +kernel]
  subst hid
  refine wpAny_bind (wpAny_isInstance (T := "bytes") (b := true) (typeIs_bytes s x t) F.sub_bytes_bytes ?_)
  refine wpAny_ite_split (fun hab => absurd hab (by decide)) (fun _ => ?_)
  refine wpAny_ite_split (fun _ => ?_) (fun hab => absurd (by decide +kernel) hab)
  refine wpAny_bind (wpAny_typeOf (typeIs_bytes s x t) ?_)
  exact wpAny_pure h

theorem ext_bytes_loop {R : Result → Shared → Prop} (hh : A.handled = none) (I S : Addr) (hIS : S ≠ I) (x : Array UInt8) (t : Tok) (res : Value) :
    ∀ (k i : Nat) (s : Shared) (acc : List Value) (c : Nat), x.size - i = k → i ≤ x.size → KBw.IsBytesIter s.heap I x t i → s.heap.get? S = some (listOf acc.toArray c) → acc.length + (x.size - i) ≤ 10000 →
    (∀ h' tk ws c', (∀ y o, y ≠ S → y ≠ I → s.heap.get? y = some o → h'.get? y = some o) → h'.get? S = some (listOf (acc ++ ws).toArray c') → IntsAre ws ((KBw.bInts x).drop i) → R (.ok (.ret res)) { s with heap := h', toks := tk }) →
    codeAny (model prog w) A (.builtin "list.extend.loop" ⟨[.ref S, .ref I, res], []⟩) R s := by
  intro k
  induction k with
  | zero =>
    intro i s acc c hk hi hst hS hz hR
    have hin : i = x.size := by omega
    subst hin
    refine codeAny_builtin F.entry_extend_loop ?_
    rw [Around.under_plainId F.plain_extend_loop _]
    show wpAny _ A.in1 (pyNext (.ref I) >>= _) _ _ s
    refine wpAny_bind (KBw.next_end hh hst (by simp) fun h' he => ?_)
    refine wpAny_pure (hR h' s.toks [] c (fun y o hy hy' e => he y o hy' e) (by rw [List.append_nil]; exact he S _ hIS hS) ?_)
    rw [← KBw.ints_length, List.drop_length]
    exact .nil
  | succ k ih =>
    intro i s acc c hk hi hst hS hz hR
    have hlt : i < x.size := by omega
    refine codeAny_builtin F.entry_extend_loop ?_
    rw [Around.under_plainId F.plain_extend_loop _]
    show wpAny _ A.in1 (pyNext (.ref I) >>= _) _ _ s
    refine wpAny_bind (KBw.next_item hst (c := x[i]) (by simp [hlt]) fun h' hit' hs' => ?_)
    have hS' := (hs'.2 S hIS).trans hS
    show wpAny _ A.in1 (updateSeq S (·.push _) >>= _) _ _ _
    refine wpAny_bind ?_
    refine wpAny_updateSeq hS' rfl (wpAny_pure ⟨plainId_quiet F.plain_extend_loop _, ih (i + 1) _ (acc ++ [.int (x[i].toNat : Int) s.toks]) (c + 1) (by omega) hlt ?_ ?_ (by simp; omega) fun h'' tk ws c' hk' hS'' hw => ?_⟩)
      (by rw [List.size_toArray, sizeLine_eq]; omega) (by show (acc.toArray.push _).size ≤ sizeLine + 1; rw [Array.size_push, List.size_toArray, sizeLine_eq]; omega)
    · obtain ⟨o, ho, r⟩ := hit'
      exact ⟨o, (Heap.get?_update_other _ _ hIS).trans ho, r⟩
    · have q := Heap.get?_update_self (Obj.mapSeq (·.push (Value.int (x[i].toNat : Int) s.toks))) hS' rfl
      refine q.trans ?_
      simp [Obj.mapSeq, W.listOf]
    · refine hR h'' tk (.int (x[i].toNat : Int) s.toks :: ws) c' (fun y o hy hy' e => hk' y o hy hy' ((Heap.get?_update_other _ _ (Ne.symm hy)).trans ((hs'.2 y hy').trans e))) (by rw [List.append_assoc] at hS''; exact hS'') ?_
      have e1 : (KBw.bInts x).drop i = (x[i].toNat : Int) :: (KBw.bInts x).drop (i + 1) := by
        rw [List.drop_eq_getElem_cons (by rw [KBw.ints_length]; exact hlt)]
        congr 1
        simp [KBw.bInts]
      rw [e1]
      exact .cons _ _ hw

theorem ext_bytes {vs : List Value} {n : Nat} {x : Array UInt8} {t : Tok} {ks : List Int} {f : Obj → List (Addr × Obj)} {Q : Value → Shared → Prop} (hh : A.handled = none) (F : Fr h₀ L s.heap m) (N : News h₀ L s.heap news) (hk : KBw.bInts x = ks) (hz : vs.length + ks.length ≤ 10000)
    (U : UpdF D (listOf vs.toArray n) news f)
    (h : ∀ h' tk ws c', Fr h₀ L h' m → News h₀ L h' (f (listOf (vs ++ ws).toArray c')) → IntsAre ws ks → Q .none { s with heap := h', toks := tk }) :
    wpAny (model prog w) A (call (.builtin "list.extend") [.ref D, .bytes x t]) Q E s := by
  obtain ⟨pre, post, rfl, hg, a, c⟩ := U.split
  have z := N (D, listOf vs.toArray n) (List.mem_append.mpr (.inr (.head _)))
  have hT : s.TypeIs (.ref D) "list" := ⟨_, z.1, rfl⟩
  subst hk
  refine wpAny_call (codeAny_call_builtin PySem.F.slot_list_extend.plain PySem.F.entry_list_extend (PySem.F.slot_list_extend.check _ _ _ _ _ _ _ _ hT (PySem.F.args_list_extend_2 _ _) ?_))
  show wpAny _ _ (Builtin.List.listExtendWith (.ref D) (.bytes x t) .none) _ _ s
  unfold Builtin.List.listExtendWith
  refine wpAny_bind (wpAny_typeOf (typeIs_bytes s x t) ?_)
  have h1 : Builtin.List.listSameRef (.ref D) (.bytes x t) = false := rfl
  have h2 : (Value.type "bytes" == Value.type "list") = false := by decide
  have h3 : (Value.type "bytes" == Value.type "tuple") = false := by decide
  simp only [h1, h2, h3, Bool.or_false, Bool.false_eq_true, if_false]
  refine wpAny_bind (KBw.pyIter_bytes ?_)
  refine wpAny_bind (wpAny_holding (hint_bytes ?_))
  refine wpAny_ite_split (fun hab => absurd hab (by decide +kernel)) (fun _ => ?_)
  refine wpAny_pure ⟨plainId_quiet PySem.F.plain_extend_loop _, ?_⟩
  have hlt : D < s.heap.objs.size := Heap.lt_size z.1
  refine ext_bytes_loop (A := A) hh s.heap.objs.size D (Nat.ne_of_lt hlt) x t .none x.size 0 _ vs n (by omega) (Nat.zero_le _) ⟨_, Heap.get?_push_size _ rfl, rfl, rfl⟩ (Heap.get?_push_of_some _ z.1) (by rw [KBw.ints_length] at hz; omega) ?_
  intro h' tk ws c' hk' hS' hw
  have keep : ∀ y o, y ≠ D → s.heap.get? y = some o → h'.get? y = some o := fun y o hy e => hk' y o hy (Nat.ne_of_lt (Heap.lt_size e)) (Heap.get?_push_of_some _ e)
  obtain ⟨oL, es, ep, hL, r⟩ := F.ns
  refine h h' tk ws c' ⟨⟨oL, es, ep, keep _ _ (Ne.symm z.2.1) hL, r⟩, fun y o e => keep y o (fun q => ?_) (F.keep y o e), F.above⟩ ?_ (by rw [List.drop_zero] at hw; exact hw)
  · have := z.2.2; rw [q, show D = (D, listOf vs.toArray n).1 from rfl, this] at e; cases e
  · rw [hg]
    intro p hp
    rcases List.mem_append.mp hp with q | q
    · have P := N p (List.mem_append_left _ q)
      exact ⟨keep _ _ (a p q) P.1, P.2⟩
    · rcases List.mem_cons.mp q with rfl | q
      · exact ⟨hS', z.2⟩
      · have P := N p (List.mem_append_right _ (.tail _ q))
        exact ⟨keep _ _ (c p q) P.1, P.2⟩
theorem to_bytes {its : Array Value} {vs : List Value} {ns : List Int} {n : Nat} {Q : Value → Shared → Prop} (F : Fr h₀ L s.heap m) (N : News h₀ L s.heap news) (hh : A.handled = none) (hm : (D, listOf its n) ∈ news) (e : its.toList = vs) (hi : IntsAre vs ns) (hr : KBa.In ns) (hz : ns.length ≤ 10000)
    (h : ∀ h' t' k x, Fr h₀ L h' m → News h₀ L h' news → KBw.bInts x = ns → Q (.bytes x t') { s with heap := h', toks := k }) :
    wpAny (model prog w) A (call (.type "bytes") [.ref D]) Q E s := by
  subst e
  refine KBa.make_K F N hh (by rw [Array.toArray_toList]; exact N.isList hm) hi hr (by omega) fun h' t' k F' N' _ => h h' t' k _ F' N' (KBa.ints_make hr)
end
end Mine
end

section
open PySem PySem.W PySem.Calls PyProof.Rows PyProof.V PySem.Spec
set_option Elab.async false
set_option maxRecDepth 100000
namespace Mine
theorem flat_keys : ∀ {kvs : List (Int × Value)} {kk : List Int}, FlatPairs PyData.int kvs (tts kk) → kvs.map (·.1) = kk
  | [], [], _ => rfl
  | (k, v) :: r, i :: c, h => by
    cases h with
    | cons h1 h2 =>
      rw [List.map_cons, flat_keys h2]
  | [], _ :: _, h => nomatch h
  | _ :: _, [], h => nomatch h
theorem ints_of : ∀ {vs : List Value} {ns : List Int}, vs.length = ns.length → (∀ (j : Nat) (v : Value), vs[j]? = some v → ∃ (k : Int) (t : Tok), ns[j]? = some k ∧ v = .int k t) → IntsAre vs ns
  | [], [], _, _ => .nil
  | v :: vs, n :: ns, hl, h => by
    obtain ⟨k, t, h1, rfl⟩ := h 0 v rfl
    have h1' : n = k := Option.some.inj h1
    subst h1'
    exact .cons n t (ints_of (Nat.succ.inj hl) fun j v hv => h (j + 1) v hv)
  | [], _ :: _, hl, _ => nomatch hl
  | _ :: _, [], hl, _ => nomatch hl
section
variable {prog : Program} {w : World} {A : Around} {E : Value → Shared → Prop} {s : Shared} {h₀ : Heap} {L d : Addr} {m : Str → Option Value} {news : List (Addr × Obj)} {o : Obj} {kvs : List (Int × Value)} {kk : List Int}
theorem sorted_tts {Q : Value → Shared → Prop} (hh : A.handled = none) (F : Fr h₀ L s.heap m) (N : News h₀ L s.heap news) (hm : (d, o) ∈ news) (lo : (d == sysModules) = false) (hd : o.IsDictOf (PySem.intKind prog w) kvs) (hf : FlatPairs PyData.int kvs (tts kk)) (hz : kk.length < 64)
    (h : ∀ D vs' ns' c h' tk, Fr h₀ L h' m → News h₀ L h' ((D, listOf vs'.toArray c) :: news) → (∀ q ∈ news, q.1 < D) → IntsAre vs' ns' → ns'.Perm kk → ns'.Pairwise (· ≤ ·) → Q (.ref D) { s with heap := h', toks := tk }) :
    wpAny (model prog w) A (call (.builtin "sorted") [.ref d]) Q E s := by
  obtain ⟨lo', kvs', hD, hf'⟩ : TabAt (PySem.intKind prog w) PyData.int s.heap d (tts kk) := TabAt.ofNews N hm lo hd hf
  obtain ⟨ep, hat⟩ := hD.dictAt
  have hkk := flat_keys hf'
  have hl : kvs'.length = kk.length := by rw [← hkk, List.length_map]
  refine kdu_sorted (kdl_dict (knd := PySem.intKind prog w) (kvs := kvs') (ep := ep) lo) hh F N hat (kdl_size (by omega)) fun D h' tk vs F' N' l1 hvl hv => ?_
  have hi : IntsAre vs kk := by
    refine ints_of (by omega) fun j v hj => ?_
    obtain ⟨k, x, hx, hk⟩ := hv j v hj
    obtain ⟨t, rfl⟩ := Value.isInt_shape hk
    refine ⟨k, t, ?_, rfl⟩
    rw [← hkk, List.getElem?_map, hx]; rfl
  have z := N' (D, listOf vs.toArray 0) (.head _)
  have ho : h'.get? D = some (seqObj "list" vs.toArray 0) := z.1
  have hDlt : D < h'.objs.size := Heap.lt_size ho
  refine wpAny_call_entry PyProof.Rows.slot_list_sort ⟨_, ho, rfl⟩ PyProof.Rows.entry_list_sort (list_sort_tree (n := 0) (vs := vs) ho hi (by omega) fun out ns' hI hp hP => ⟨.none, rfl, ?_⟩) (PyProof.Rows.args_list_sort _)
  obtain ⟨e, he⟩ := sortedHeap_at (out := out) ho
  have keep : ∀ b x, b ≠ D → h'.get? b = some x → (sortedHeap h' D vs out).get? b = some x := fun b x hb hx => (sortedHeap_old hb (Heap.lt_size hx)).trans hx
  obtain ⟨oL, es, ep', hL, r⟩ := F'.ns
  refine h D out.toList ns' e _ tk ⟨⟨oL, es, ep', keep _ _ (Ne.symm z.2.1) hL, r⟩, fun b x hx => keep b x (fun q => ?_) (F'.keep b x hx), F'.above⟩ ?_ l1 hI hp hP
  · have h1 := z.2.2
    rw [q, show D = (D, listOf vs.toArray 0).1 from rfl, h1] at hx
    cases hx
  · intro p hp'
    rcases List.mem_cons.mp hp' with rfl | hq
    · refine ⟨?_, z.2⟩
      rw [Array.toArray_toList]; exact he
    · have P := N' p (.tail _ hq)
      exact ⟨keep _ _ (Nat.ne_of_lt (l1 p hq)) P.1, P.2⟩
end
end Mine
end

section
open PySem PySem.W PySem.Calls PyProof.Rows PyProof.V PySem.Spec
set_option Elab.async false
set_option maxRecDepth 100000
namespace Mine
section
variable {prog : Program} {w : World} {A₀ A : Around} {s : Shared} {K : Frag} {base h₀ : Heap} {outer : List Env} {L : Addr} {m mg mb : Str → Option Value} {env : Env} {news : List (Addr × Obj)} {p : Program} {loose : List Str} {mean : ExcName → Option Value}
  {R : Result → Shared → Prop} {name qual : Str} {params : Arguments} {body : List Stmt} {scope : Scope} {dV kV doc pm cdv ct oc : Value} {an od : Option Addr} {osl : Array (Option Value)} {f : Addr} {args : Args} {binds : List (Str × Value)}
theorem code_cellG (B : Below A₀ base outer h₀) (F : Fr h₀ L s.heap m) (X₀ : K.In h₀) (N : News h₀ L s.heap news) (T : Top p loose mean mg mb h₀) (hA : A.frames = some (env :: outer)) (hf : env.frame = some L) (hke : env.scope.kind = .function)
    (ho : K.lookup f = some ⟨oc, od, .func (fnX name qual params body scope [] dV kV doc pm an cdv ct), osl⟩) (hcd : codeIn K cdv qual = true) (hroom : A.depth < recursionLimit)
    (hbind : BindsTo s (fnX name qual params body scope [] dV kV doc pm an cdv ct) args binds)
    (hkind : ∀ n, ∀ x ∈ binds, scope.names.lookup x.1 = some .local ∨ (scope.names.lookup x.1 = some .cell ∧ ((cellsFrom n scope.names []).lookup x.1).isSome = true))
    (hnd : ((cellsFrom 0 scope.names []).map (·.1)).Nodup)
    (h : ∀ g L' h₁ tk cells, Fr h₀ L g m → Fr g L' h₁ (bindL (envOfC qual scope L' f cdv).kindOf binds fun _ => none) → News g L' h₁ (cells ++ news) →
      CellsAre (bindC (envOfC qual scope L' f cdv).kindOf binds fun _ => none) (cellsFrom (L' + 1) scope.names []) cells → Below A base (env :: outer) g → K.In g → Top p loose mean mg mb g → GSub s.heap g (news.map (·.1)) →
      wpAny (model prog w) (A.deeper (envOfC qual scope L' f cdv)) (execs body (envOfC qual scope L' f cdv))
        (fun fl s' => LeaveK h₀ L m g R (match fl with | .ret v => v | _ => .none) s')
        (fun e s' => wpAny (model prog w) (A.deeper (envOfC qual scope L' f cdv)) (leaving (envOfC qual scope L' f cdv) e) (fun _ s'' => R (.error e) s'') (fun e' s'' => R (.error e') s'') s')
        { s with heap := h₁, toks := tk })
    (hco : scope.isCoroutine = false) (hgen : scope.isGenerator = false) (hk : scope.kind = .function) : codeAny (model prog w) A (.call (.ref f) args) R s := by
  obtain ⟨FG, BG, st, lv⟩ := groundX (R := R) B F N hA hf hke
  refine codeAny_call_function hroom ((X₀.keeps F.keep) _ _ ho) rfl hco hgen rfl (codeRec_of (X₀.keeps F.keep) hcd) (hbind _ _ _ _ ?_)
  refine wpAny_newFunctionEnv_cells hk (hkind _) fun env' he s' x => ?_
  subst he
  refine ⟨(T.nolimit.keeps F.keep).keeps x.toInCall.keep, codeAny_func ?_⟩
  obtain ⟨h₁, tk, rfl, _⟩ := x.done
  have hk₁ := x.toInCall.keep
  obtain ⟨cells, NC, Y⟩ := Cl.news (h₀ := s.heap) (Nat.le_refl _) fun n c hm => ⟨x.cell n c (lookup_of_mem_nodup (cellsFrom_names scope.names 0 (s.heap.objs.size + 1) [] [] rfl ▸ hnd) hm), x.above n c hm⟩
  refine wpAny_mono (h _ s.heap.objs.size h₁ tk cells FG ⟨x.toInCall.ns, fun b o e => hk₁ b o (of_hideAll _ e), Nat.le_of_eq (hideAll_size _ _)⟩ (fun p hp => ?_) Y BG (X₀.keeps st) (T.keeps st) (fun b o e n => hideAll_get _ e n)) (fun fl s' hl => lv _ _ hl) fun _ _ y => y
  rcases List.mem_append.mp hp with hp | hp
  · refine ⟨(NC p hp).1, (NC p hp).2.1, ?_⟩
    cases q : (hideAll s.heap (news.map (·.1))).get? p.1 with
    | none => rfl
    | some o => have := of_hideAll _ q; rw [(NC p hp).2.2] at this; cases this
  · exact ⟨hk₁ _ _ (N p hp).1, Nat.ne_of_lt (Heap.lt_size (N p hp).1), hideAll_none _ (List.mem_map_of_mem hp)⟩
end
/-- as Body, for a def that has names in cells -/
def BodyC (w : World) (k : Nat) (f : Addr) (qual : Str) (scope : Scope) (cdv : Value) (body : List Stmt) (binds : List (Str × Value)) (news : Led) (post : Value → Led → Prop) : Prop :=
  ∀ (mean : ExcName → Option Value) (mg mb : Str → Option Value) (dp un : Nat) (gd : Option (List Code)) (outer : List Env) (A₀ : Around) (base h₀ : Heap) (L : Addr) (s : Shared) (Q : Flow → Shared → Prop) (cells : Led),
    Below A₀ base outer h₀ → (hd.heap_39 w.params).In h₀ → Top hd.view_39 (looseW hd.view_39 [Str.ofString "PaperError", Str.ofString "name_text"]) mean mg mb h₀ →
    Fr h₀ L s.heap (bindL (envOfC qual scope L f cdv).kindOf binds fun _ => none) → News h₀ L s.heap (cells ++ news) →
    CellsAre (bindC (envOfC qual scope L f cdv).kindOf binds fun _ => none) (cellsFrom (L + 1) scope.names []) cells →
    dp + k < 900 → un + 8 * k < 9000 →
    (∀ r h' tk' m' news', Fr h₀ L h' m' → News h₀ L h' news' → post r news' → Q (.ret r) { s with heap := h', toks := tk' }) →
    (∀ h' tk' m' news', Fr h₀ L h' m' → News h₀ L h' news' → post .none news' → Q .next { s with heap := h', toks := tk' }) →
    wpAny (model PySem.Challenge.rw_og0184_01.row.prog w) (ktrTop dp un gd qual scope L f cdv (cellsFrom (L + 1) scope.names []) outer) (execs body (envX qual scope L f cdv (cellsFrom (L + 1) scope.names []))) Q (fun _ _ => False) s
theorem contract_cell {w : World} {k : Nat} {f : Addr} {vs : List Value} {news : Led} {post : Value → Led → Prop}
    {name qual : Str} {params : Arguments} {body : List Stmt} {scope : Scope} {dV kV doc pm cdv ct oc : Value} {an od : Option Addr} {osl : Array (Option Value)} (binds : List (Str × Value))
    (ho : (hd.heap_39 w.params).lookup f = some ⟨oc, od, .func (fnOf name qual params body scope dV kV doc pm an cdv ct), osl⟩)
    (hcd : codeIn (hd.heap_39 w.params) cdv qual = true)
    (hbind : ∀ s : Shared, (hd.heap_39 w.params).In s.heap → BindsTo s (fnOf name qual params body scope dV kV doc pm an cdv ct) ⟨vs, []⟩ binds)
    (hkind : ∀ n, ∀ x ∈ binds, scope.names.lookup x.1 = some .local ∨ (scope.names.lookup x.1 = some .cell ∧ ((cellsFrom n scope.names []).lookup x.1).isSome = true))
    (hnd : ((cellsFrom 0 scope.names []).map (·.1)).Nodup)
    (hco : scope.isCoroutine = false) (hgen : scope.isGenerator = false) (hk : scope.kind = .function)
    (h : BodyC w k f qual scope cdv body binds news post) : Contract w (k + 1) f vs news post := by
  intro mean mg mb A A₀ env outer base h₀ L m s R B F X N T hA hf hke hh hd hu hret
  refine code_cellG B F X N T hA hf hke ho hcd (by unfold recursionLimit; omega) (hbind s (X.keeps F.keep)) hkind hnd ?_ hco hgen hk
  intro g L' h₁ tk cells FG F' N' C' B' X' T' G'
  have eA : A.deeper (envOfC qual scope L' f cdv) = ktrTop (A.depth + 1) (A.units + 3) A.guards qual scope L' f cdv (cellsFrom (L' + 1) scope.names []) (env :: outer) := by
    cases A
    simp only [] at hA hh
    subst hA hh
    rfl
  rw [eA]
  have fin : ∀ r h' tk' m' news', Fr g L' h' m' → News g L' h' news' → post r news' → LeaveK h₀ L m g R r { s with heap := h', toks := tk' } := by
    intro r h' tk' m' news' F9 N9 hp
    refine leaveK_ F9 N9 fun F8 N8 => hret r h' tk' news' F8 N8 ?_ ?_ hp
    · intro b o e hb
      exact F9.keep b o (G' b o e hb)
    · intro p hp'
      by_cases hb : p.1 ∈ news.map (·.1)
      · exact .inl hb
      · refine .inr ?_
        cases hq : s.heap.get? p.1 with
        | none => rfl
        | some o =>
          have h1 := G' p.1 o hq hb
          rw [(N9 p hp').2.2] at h1
          cases h1
  refine wpAny_noRaise (h mean mg mb (A.depth + 1) (A.units + 3) A.guards (env :: outer) A base g L' _ _ cells B' X' T' F' N' C' (by omega) (by omega) ?_ ?_)
  · intro r h' tk' m' news' F9 N9 hp
    exact fin r h' tk' m' news' F9 N9 hp
  · intro h' tk' m' news' F9 N9 hp
    exact fin _ h' tk' m' news' F9 N9 hp
end Mine
end

section
open PySem PySem.W PySem.Calls PyProof.Rows PyProof.V PySem.Spec
set_option Elab.async false
set_option maxRecDepth 100000
namespace Mine
/-- a def that asks for the two newest objects; all else is kept -/
theorem Contract.use2 {w : World} {k : Nat} {f : Addr} {vs : List Value} {p1 p2 : Addr × Obj} {post : Value → Led → Prop} (C : Contract w k f vs [p1, p2] post) {rest : Led}
    {mean : ExcName → Option Value} {mg mb : Str → Option Value} {dp un : Nat} {gd : Option (List Code)} {cn : Str} {cs : Scope} {a : Addr} {ccd : Value} {cl : List (Str × Addr)} {outer : List Env} {A₀ : Around} {base h₀ : Heap} {L : Addr} {m : Str → Option Value} {s : Shared} {Q E : Value → Shared → Prop}
    (B : Below A₀ base outer h₀) (F : Fr h₀ L s.heap m) (X : (hd.heap_39 w.params).In h₀) (N : News h₀ L s.heap (p1 :: p2 :: rest)) (T : Top hd.view_39 (looseW hd.view_39 [Str.ofString "PaperError", Str.ofString "name_text"]) mean mg mb h₀)
    (hk : cs.kind = .function) (hd : dp + k < 900) (hu : un + 8 * k < 9000)
    (o1 : ∀ p ∈ rest, p.1 ≠ p1.1) (o2 : ∀ p ∈ rest, p.1 ≠ p2.1)
    (ret : ∀ r h' tk' news', Fr h₀ L h' m → News h₀ L h' (news' ++ rest) → (∀ p ∈ news', ∀ q ∈ rest, p.1 ≠ q.1) → post r news' → Q r { s with heap := h', toks := tk' }) :
    wpAny (model PySem.Challenge.rw_og0184_01.row.prog w) (ktrTop dp un gd cn cs L a ccd cl outer) (call (.ref f) vs) Q E s := by
  refine C.use rest B F X N T hk hd hu ?_ ?_ ?_ ret
  · intro p hp
    rcases List.mem_cons.mp hp with rfl | hp
    · exact .head _
    · cases List.mem_singleton.mp hp
      exact .tail _ (.head _)
  · exact fun p hp => .tail _ (.tail _ hp)
  · intro p hp hm
    rcases List.mem_cons.mp hm with e | hm
    · exact o1 p hp e
    · exact o2 p hp (List.mem_singleton.mp hm)
end Mine
end

section
open PySem PySem.W PySem.Calls PyProof.Rows PyProof.V PySem.Spec
set_option Elab.async false
set_option maxRecDepth 100000
namespace Mine
section
variable {prog : Program} {w : World} {A : Around} {E : Value → Shared → Prop} {s : Shared} {h₀ h : Heap} {L D : Addr} {m : PySem.Str → Option Value} {news news' : List (Addr × Obj)} {n : Nat}
theorem seq0 {n : Nat} : seqIndex? 0 (n + 1) = some 0 := by
  unfold seqIndex?
  simp
theorem pop0 {y : Value} {q : List Value} {u : Tok} {Q : Value → Shared → Prop} (F : Fr h₀ L s.heap m) (N : News h₀ L s.heap news) (U : Upd D (listOf (y :: q).toArray n) (listOf q.toArray (n + 1)) news news')
    (hz : q.length ≤ 1000) (h : ∀ h', Fr h₀ L h' m → News h₀ L h' news' → Q y { s with heap := h' }) : wpAny (model prog w) A (call (.builtin "list.pop") [.ref D, .int 0 u]) Q E s :=
  kl_popAt (k := 0) (p := []) (q := q) (y := y) F N rfl (by rw [List.size_toArray, List.length_cons]; exact seq0) rfl U (by rw [PySem.sizeLine_eq]; show (y :: q).length ≤ _; rw [List.length_cons]; omega) h
end
theorem Contract.useR {w : World} {k : Nat} {f : Addr} {vs : List Value} {p1 p2 : Addr × Obj} {post : Value → Led → Prop} (C : Contract w k f vs [p1, p2] post) (rest : Led)
    {mean : ExcName → Option Value} {mg mb : PySem.Str → Option Value} {dp un : Nat} {gd : Option (List Code)} {cn : PySem.Str} {cs : Scope} {a : Addr} {ccd : Value} {cl : List (PySem.Str × Addr)} {outer : List Env} {A₀ : Around} {base h₀ : Heap} {L : Addr} {m : PySem.Str → Option Value} {s : Shared} {Q E : Value → Shared → Prop} {all : Led}
    (B : Below A₀ base outer h₀) (F : Fr h₀ L s.heap m) (X : (hd.heap_39 w.params).In h₀) (N : News h₀ L s.heap all) (T : Top hd.view_39 (looseW hd.view_39 [PySem.Str.ofString "PaperError", PySem.Str.ofString "name_text"]) mean mg mb h₀)
    (hk : cs.kind = .function) (hd : dp + k < 900) (hu : un + 8 * k < 9000)
    (m1 : p1 ∈ all) (m2 : p2 ∈ all) (hr : ∀ p ∈ rest, p ∈ all)
    (o1 : ∀ p ∈ rest, p.1 ≠ p1.1) (o2 : ∀ p ∈ rest, p.1 ≠ p2.1)
    (ret : ∀ r h' tk' news', Fr h₀ L h' m → News h₀ L h' (news' ++ rest) → post r news' → Q r { s with heap := h', toks := tk' }) :
    wpAny (model PySem.Challenge.rw_og0184_01.row.prog w) (ktrTop dp un gd cn cs L a ccd cl outer) (call (.ref f) vs) Q E s := by
  refine C.use rest B F X N T hk hd hu ?_ hr ?_ fun r h' tk' n F N _ hp => ret r h' tk' n F N hp
  · intro p hp
    rcases List.mem_cons.mp hp with rfl | hp
    · exact m1
    · cases List.mem_singleton.mp hp
      exact m2
  · intro p hp hm
    rcases List.mem_cons.mp hm with e | hm
    · exact o1 p hp e
    · exact o2 p hp (List.mem_singleton.mp hm)
theorem Contract.useR3 {w : World} {k : Nat} {f : Addr} {vs : List Value} {p1 p2 p3 : Addr × Obj} {post : Value → Led → Prop} (C : Contract w k f vs [p1, p2, p3] post) (rest : Led)
    {mean : ExcName → Option Value} {mg mb : PySem.Str → Option Value} {dp un : Nat} {gd : Option (List Code)} {cn : PySem.Str} {cs : Scope} {a : Addr} {ccd : Value} {cl : List (PySem.Str × Addr)} {outer : List Env} {A₀ : Around} {base h₀ : Heap} {L : Addr} {m : PySem.Str → Option Value} {s : Shared} {Q E : Value → Shared → Prop} {all : Led}
    (B : Below A₀ base outer h₀) (F : Fr h₀ L s.heap m) (X : (hd.heap_39 w.params).In h₀) (N : News h₀ L s.heap all) (T : Top hd.view_39 (looseW hd.view_39 [PySem.Str.ofString "PaperError", PySem.Str.ofString "name_text"]) mean mg mb h₀)
    (hk : cs.kind = .function) (hd : dp + k < 900) (hu : un + 8 * k < 9000)
    (m1 : p1 ∈ all) (m2 : p2 ∈ all) (m3 : p3 ∈ all) (hr : ∀ p ∈ rest, p ∈ all)
    (o1 : ∀ p ∈ rest, p.1 ≠ p1.1) (o2 : ∀ p ∈ rest, p.1 ≠ p2.1) (o3 : ∀ p ∈ rest, p.1 ≠ p3.1)
    (ret : ∀ r h' tk' news', Fr h₀ L h' m → News h₀ L h' (news' ++ rest) → post r news' → Q r { s with heap := h', toks := tk' }) :
    wpAny (model PySem.Challenge.rw_og0184_01.row.prog w) (ktrTop dp un gd cn cs L a ccd cl outer) (call (.ref f) vs) Q E s := by
  refine C.use rest B F X N T hk hd hu ?_ hr ?_ fun r h' tk' n F N _ hp => ret r h' tk' n F N hp
  · intro p hp
    rcases List.mem_cons.mp hp with rfl | hp
    · exact m1
    · rcases List.mem_cons.mp hp with rfl | hp
      · exact m2
      · cases List.mem_singleton.mp hp
        exact m3
  · intro p hp hm
    rcases List.mem_cons.mp hm with e | hm
    · exact o1 p hp e
    · rcases List.mem_cons.mp hm with e | hm
      · exact o2 p hp e
      · exact o3 p hp (List.mem_singleton.mp hm)
theorem off_cons {p : Addr × Obj} {r : Led} {d : Addr} {C : Prop} (h : @LT.lt Nat _ p.1 d ∧ C) (k : C → ∀ q ∈ r, q.1 ≠ d) : ∀ q ∈ p :: r, q.1 ≠ d :=
  List.forall_mem_cons.2 ⟨Nat.ne_of_lt h.1, k h.2⟩
theorem off_last {p : Addr × Obj} {d : Addr} (h : @LT.lt Nat _ p.1 d) : ∀ q ∈ [p], q.1 ≠ d :=
  List.forall_mem_cons.2 ⟨Nat.ne_of_lt h, fun _ h => nomatch h⟩
theorem offx_cons {p : Addr × Obj} {r : Led} {d x : Addr} {C : Prop} (l : @LT.lt Nat _ d x) (h : @LT.lt Nat _ p.1 d ∧ C) (k : C → ∀ q ∈ r, q.1 ≠ x) : ∀ q ∈ p :: r, q.1 ≠ x :=
  List.forall_mem_cons.2 ⟨Nat.ne_of_lt (Nat.lt_trans h.1 l), k h.2⟩
theorem offx_last {p : Addr × Obj} {d x : Addr} (l : @LT.lt Nat _ d x) (h : @LT.lt Nat _ p.1 d) : ∀ q ∈ [p], q.1 ≠ x :=
  List.forall_mem_cons.2 ⟨Nat.ne_of_lt (Nat.lt_trans h l), fun _ h => nomatch h⟩
end Mine
end

section
open PySem PySem.W PySem.Calls PyProof.Rows PyProof.V PySem.Spec
set_option Elab.async false
set_option maxRecDepth 100000
namespace Mine
/-- the use of a contract in any frame; nothing but news is kept -/
theorem Contract.useA {w : World} {k : Nat} {f : Addr} {vs : List Value} {news : Led} {post : Value → Led → Prop} (C : Contract w k f vs news post)
    {mean : ExcName → Option Value} {mg mb : PySem.Str → Option Value} {A A₀ : Around} {env : Env} {outer : List Env} {base h₀ : Heap} {L : Addr} {m : PySem.Str → Option Value} {s : Shared} {Q E : Value → Shared → Prop} {all : Led}
    (B : Below A₀ base outer h₀) (F : Fr h₀ L s.heap m) (X : (hd.heap_39 w.params).In h₀) (N : News h₀ L s.heap all) (T : Top hd.view_39 (looseW hd.view_39 [PySem.Str.ofString "PaperError", PySem.Str.ofString "name_text"]) mean mg mb h₀)
    (hA : A.frames = some (env :: outer)) (hf : env.frame = some L) (hk : env.scope.kind = .function) (hh : A.handled = none) (hd : A.depth + k < 900) (hu : A.units + 8 * k < 9000)
    (hsub : ∀ p ∈ news, p ∈ all)
    (ret : ∀ r h' tk' news', Fr h₀ L h' m → News h₀ L h' news' → post r news' → Q r { s with heap := h', toks := tk' }) :
    wpAny (model PySem.Challenge.rw_og0184_01.row.prog w) A (call (.ref f) vs) Q E s :=
  wpAny_call (C.code [] B F X N T hA hf hk hh hd hu hsub (fun _ h => nomatch h) (fun _ h => nomatch h) fun r h' tk' n F N _ hp => ret r h' tk' n F (by rwa [List.append_nil] at N) hp)
end Mine
end

section
open PySem PySem.W PySem.Calls PyProof.Rows PyProof.V PySem.Spec
set_option Elab.async false
set_option maxRecDepth 100000
namespace Mine
/-- the def at f is written so -/
def FnIs (w : World) (f : Addr) (qual : Str) (scope : Scope) (cdv : Value) (body : List Stmt) : Prop :=
  ∃ name params dV kV doc pm ct oc an od osl, (hd.heap_39 w.params).lookup f = some ⟨oc, od, .func (fnOf name qual params body scope dV kV doc pm an cdv ct), osl⟩
theorem FnIs.at {w : World} {f : Addr} {name qual : Str} {params : Arguments} {body : List Stmt} {scope : Scope} {dV kV doc pm cdv ct oc : Value} {an od : Option Addr} {osl : Array (Option Value)}
    (ho : (hd.heap_39 w.params).lookup f = some ⟨oc, od, .func (fnOf name qual params body scope dV kV doc pm an cdv ct), osl⟩) : FnIs w f qual scope cdv body :=
  ⟨name, params, dV, kV, doc, pm, ct, oc, an, od, osl, ho⟩
theorem FnIs.same {w : World} {f : Addr} {q q' : Str} {s s' : Scope} {c c' : Value} {b b' : List Stmt} (h : FnIs w f q s c b) (h' : FnIs w f q' s' c' b') : q = q' ∧ s = s' ∧ c = c' ∧ b = b' := by
  obtain ⟨n1, p1, d1, k1, o1, m1, t1, c1, a1, e1, l1, h1⟩ := h
  obtain ⟨n2, p2, d2, k2, o2, m2, t2, c2, a2, e2, l2, h2⟩ := h'
  rw [h1] at h2
  simp only [fnOf, Option.some.injEq, Obj.mk.injEq, Data.func.injEq, FuncData.mk.injEq, FuncBody.stmts.injEq] at h2
  obtain ⟨_, _, h3, _⟩ := h2
  simp_all
/-- the rest of a def's block, from its n-th statement on: from any state whose names are m it returns r -/
def SegAt (w : World) (k : Nat) (f : Addr) (qual : Str) (scope : Scope) (cdv : Value) (rest : List Stmt) (m : Str → Option Value) (r : Value) : Prop :=
  ∀ (mean : ExcName → Option Value) (mg mb : Str → Option Value) (dp un : Nat) (gd : Option (List Code)) (outer : List Env) (A₀ : Around) (base h₀ : Heap) (L : Addr) (s : Shared) (Q : Flow → Shared → Prop),
    Below A₀ base outer h₀ → (hd.heap_39 w.params).In h₀ → Top hd.view_39 (looseW hd.view_39 [Str.ofString "PaperError", Str.ofString "name_text"]) mean mg mb h₀ → Fr h₀ L s.heap m →
    dp + k < 900 → un + 8 * k < 9000 → (∀ h' tk' m', Fr h₀ L h' m' → Q (.ret r) { s with heap := h', toks := tk' }) →
    wpAny (model PySem.Challenge.rw_og0184_01.row.prog w) (ktrTop dp un gd qual scope L f cdv [] outer) (execs rest (envX qual scope L f cdv [])) Q (fun _ _ => False) s
def Seg (w : World) (k : Nat) (f : Addr) (n : Nat) (m : Str → Option Value) (r : Value) : Prop :=
  ∀ qual scope cdv body, FnIs w f qual scope cdv body → SegAt w k f qual scope cdv (body.drop n) m r
theorem seg_of {w : World} {k : Nat} {f : Addr} {n : Nat} {m : Str → Option Value} {r : Value} {qual : Str} {scope : Scope} {cdv : Value} {body : List Stmt} (hf : FnIs w f qual scope cdv body)
    (h : SegAt w k f qual scope cdv (body.drop n) m r) : Seg w k f n m r := fun q s c b h' => by
  obtain ⟨rfl, rfl, rfl, rfl⟩ := hf.same h'
  exact h
theorem Seg.use {w : World} {k : Nat} {f : Addr} {n : Nat} {m : Str → Option Value} {r : Value} (S : Seg w k f n m r) {qual : Str} {scope : Scope} {cdv : Value} {body rest : List Stmt} (hf : FnIs w f qual scope cdv body) (e : rest = body.drop n)
    {mean : ExcName → Option Value} {mg mb : Str → Option Value} {dp un : Nat} {gd : Option (List Code)} {outer : List Env} {A₀ : Around} {base h₀ : Heap} {L : Addr} {s : Shared} {Q : Flow → Shared → Prop}
    (B : Below A₀ base outer h₀) (X : (hd.heap_39 w.params).In h₀) (T : Top hd.view_39 (looseW hd.view_39 [Str.ofString "PaperError", Str.ofString "name_text"]) mean mg mb h₀) (F : Fr h₀ L s.heap m)
    (hd : dp + k < 900) (hu : un + 8 * k < 9000) (ret : ∀ h' tk' m', Fr h₀ L h' m' → Q (.ret r) { s with heap := h', toks := tk' }) :
    wpAny (model PySem.Challenge.rw_og0184_01.row.prog w) (ktrTop dp un gd qual scope L f cdv [] outer) (execs rest (envX qual scope L f cdv [])) Q (fun _ _ => False) s := by
  subst e
  exact S qual scope cdv body hf mean mg mb dp un gd outer A₀ base h₀ L s Q B X T F hd hu ret
/-- a value that two ways agree upon: the ways are joined -/
structure WayEnd (P : Value → Prop) (s : Shared) (v : Value) (s' : Shared) : Prop where
  val : P v
  tk : ∃ tk, s' = { s with toks := tk }
theorem way_cut {M : Model} {A : Around} {E : Value → Shared → Prop} {s : Shared} {Q : Value → Shared → Prop} {x : Sem Value} (P : Value → Prop) (h : wpAny M A x (WayEnd P s) E s) (k : ∀ v tk, P v → Q v { s with toks := tk }) : wpAny M A x Q E s :=
  wpAny_mono h (fun v s' h' => by obtain ⟨p, tk, e⟩ := h'; rw [e]; exact k v tk p) (fun _ _ e => e)
end Mine
end

section
open PySem PySem.W PySem.Calls PyProof.Rows PyProof.V PySem.Spec
set_option Elab.async false
set_option maxRecDepth 100000
namespace Mine
section
variable {prog : Program} {w : World} {A : Around} {E : Value → Shared → Prop} {s : Shared} {b : Array UInt8} {t : Tok}
theorem nextOf_item {it : Addr} {i : Nat} {c : UInt8} {Q : Value → Shared → Prop} (hit : KBw.IsBytesIter s.heap it b t i) (hx : b[i]? = some c)
    (hQ : ∀ h', KBw.IsBytesIter h' it b t (i + 1) → Heap.SameBut it s.heap h' → Q (.int (c.toNat : Int) s.toks) { s with heap := h', toks := s.toks + 1 }) :
    wpAny (model prog w) A (Builtin.SmallTypes.nextOf (.ref it)) Q E s := by
  obtain ⟨o, ho, hc, hd⟩ := id hit
  unfold Builtin.SmallTypes.nextOf
  refine wpAny_bind (wpAny_callSpecial?_slot (name := PySem.Str.ofString "__next__") (KBw.iter_typeIs hit) KBw.slot_next
    (wpAny_call_entry KBw.slot_next (KBw.iter_typeIs hit) KBw.entry_next ?_ (KBw.args_next _)))
  show wpAny _ _ (field (.ref it) 0 >>= _) _ _ s
  refine wpAny_bind (wpAny_field ho hd (x := .bytes b t) rfl ?_)
  show wpAny _ _ (if (Value.bytes b t == Value.none) = true then _ else _) _ _ s
  rw [if_neg (show ¬ ((Value.bytes b t == Value.none) = true) from Bool.false_ne_true)]
  show wpAny _ _ (field (.ref it) 1 >>= _) _ _ s
  refine wpAny_bind (wpAny_field ho hd (x := .int i 0) rfl ?_)
  refine wpAny_bind (wpAny_of_eq (a := b) rfl ?_)
  simp only [Int.toNat_natCast, hx]
  refine wpAny_bind (wpAny_setField ho hd (by simp) (wpAny_bind (wpAny_mkInt (wpAny_pure ⟨_, rfl, wpAny_pure (hQ _ ?_ (Heap.SameBut.update ..))⟩))))
  exact ⟨_, Heap.get?_update_self _ ho (Obj.isFreed_of_fields (Obj.data_mapFields hd _)), (Obj.cls_mapFields ..).trans hc, by
    rw [Obj.data_mapFields hd]; simp [rawInt]⟩
theorem nextOf_end {it : Addr} {i : Nat} {Q : Value → Shared → Prop} (hh : A.handled = none) (hit : KBw.IsBytesIter s.heap it b t i) (hx : b[i]? = none)
    (hE : ∀ h' e, Heap.ExtBut it s.heap h' → (∃ o, h'.get? e = some o ∧ o.cls = .type "StopIteration") → E (.ref e) { s with heap := h' }) :
    wpAny (model prog w) A (Builtin.SmallTypes.nextOf (.ref it)) Q E s := by
  obtain ⟨o, ho, hc, hd⟩ := id hit
  unfold Builtin.SmallTypes.nextOf
  refine wpAny_bind (wpAny_callSpecial?_slot (name := PySem.Str.ofString "__next__") (KBw.iter_typeIs hit) KBw.slot_next
    (wpAny_call_entry KBw.slot_next (KBw.iter_typeIs hit) KBw.entry_next ?_ (KBw.args_next _)))
  show wpAny _ _ (field (.ref it) 0 >>= _) _ _ s
  refine wpAny_bind (wpAny_field ho hd (x := .bytes b t) rfl ?_)
  show wpAny _ _ (if (Value.bytes b t == Value.none) = true then _ else _) _ _ s
  rw [if_neg (show ¬ ((Value.bytes b t == Value.none) = true) from Bool.false_ne_true)]
  show wpAny _ _ (field (.ref it) 1 >>= _) _ _ s
  refine wpAny_bind (wpAny_field ho hd (x := .int i 0) rfl ?_)
  refine wpAny_bind (wpAny_of_eq (a := b) rfl ?_)
  simp only [Int.toNat_natCast, hx]
  refine wpAny_bind (wpAny_rule (wpAny_bind (wpAny_setField ho hd (by simp) ?_)))
  show wpAny _ _ (newExc (.type "StopIteration") [] >>= _) _ _ _
  refine wpAny_bind ?_
  simp only [newExc, newTuple]
  refine wpAny_bind (wpAny_newObj_type ?_ (by size_fits))
  refine wpAny_bind (m := firstArgMember _ _) (wpAny_of_eq (a := Value.none) (by first | rfl | (simp only [firstArgMember]; rfl)) ?_)
  refine wpAny_newObj_type ?_ (by size_fits)
  simp only [raiseNew]
  refine wpAny_bind (wpAny_handled ?_)
  rw [show A.in1.handled = none from hh]
  refine wpAny_bind (wpAny_pure (wpAny_throw ?_))
  exact hE _ _ (((Heap.SameBut.update ..).extBut.push _).push _) ⟨_, Heap.get?_push_size _ rfl, rfl⟩
end
theorem draws_bytes {prog : Program} {w : World} {A : Around} (hh : A.handled = none) (it : Addr) (b : Array UInt8) (t : Tok) :
    Draws prog w A it [it] b.size (fun i v => ∃ c u, b[i]? = some c ∧ v = .int (c.toNat : Int) u) (fun i h => KBw.IsBytesIter h it b t i) where
  live := fun _ _ st => let ⟨o, ho, _⟩ := st; ⟨o, ho⟩
  frame := fun _ _ _ st hk => let ⟨o, ho, r⟩ := st; ⟨o, hk it (by simp) o ho, r⟩
  item := fun i s Q E hi st hQ => by
    refine nextOf_item st (c := b[i]) (by simp [hi]) fun h' hit' hs' => ?_
    exact hQ _ h' (s.toks + 1) ⟨_, _, by simp [hi], rfl⟩ hit' hs'
  done := fun s Q E st hE => nextOf_end hh st (by simp) hE

set_option maxHeartbeats 1000000 in
theorem meets_enum_bytes (b : Array UInt8) (t : Tok) :
    Meets (Builtin.«enumerate.__new__» ⟨[.type "enumerate", .bytes b t], []⟩) (fun _ R s =>
      R (.ok (.ret (.ref (s.heap.push { cls := .type "bytes_iterator", data := .fields #[.bytes b t, .int 0 0] }).objs.size)))
        { s with heap := (s.heap.push { cls := .type "bytes_iterator", data := .fields #[.bytes b t, .int 0 0] }).push { cls := .type "enumerate", data := .fields #[.none, .bool false, .ref s.heap.objs.size, rawInt 0, .none, .none] } }) :=
  .of_wp fun prog w A R s h => by
    obtain ⟨hp, g, d, tk, os⟩ := s
    have hsub := sub_enumerate
    wp_walk
    refine wpAny_stack_any fun st => wpAny_pure ?_
    split
    · rename_i c _ _ _ _ _
      cases (c == Value.type "enumerate")
      · wp_walk using KBw.pyIter_bytes
        exact ⟨_, rfl, h⟩
      · wp_walk using KBw.pyIter_bytes
        exact ⟨_, rfl, h⟩
    · wp_walk using KBw.pyIter_bytes
      exact ⟨_, rfl, h⟩

section
variable {prog : Program} {w : World} {A : Around} {E : Value → Shared → Prop} {s : Shared}
theorem call_enum_bytes {x : Array UInt8} {t : Tok} {Q : Value → Shared → Prop}
    (h : ∀ h', IsEnum h' (s.heap.objs.size + 1) s.heap.objs.size 0 .none → KBw.IsBytesIter h' s.heap.objs.size x t 0 → h'.objs.size = s.heap.objs.size + 2 →
      (∀ b o, s.heap.get? b = some o → h'.get? b = some o) → Q (.ref (s.heap.objs.size + 1)) { s with heap := h' }) :
    wpAny (model prog w) A (call (.type "enumerate") [.bytes x t]) Q E s := by
  refine callType_new F.called_enumerate (by decide) (F.typeCall_enumerate_1 _) (F.newCall_enumerate_1 _) (fun obj => F.args_object_init_2 obj _) F.entry_enumerate_new
    (meets_enum_bytes x t) ?_
  have hz : (s.heap.push { cls := .type "bytes_iterator", data := .fields #[.bytes x t, .int 0 0] }).objs.size = s.heap.objs.size + 1 := Heap.size_push ..
  show _ ∧ _
  rw [hz]
  have he : IsEnum ((s.heap.push { cls := .type "bytes_iterator", data := .fields #[.bytes x t, .int 0 0] }).push
      { cls := .type "enumerate", data := .fields #[.none, .bool false, .ref s.heap.objs.size, rawInt 0, .none, .none] }) (s.heap.objs.size + 1) s.heap.objs.size 0 .none := by
    have := Heap.get?_push_size (s.heap.push { cls := .type "bytes_iterator", data := .fields #[.bytes x t, .int 0 0] })
      (o := { cls := .type "enumerate", data := .fields #[.none, .bool false, .ref s.heap.objs.size, rawInt 0, .none, .none] }) rfl
    rw [hz] at this; exact this
  refine ⟨⟨_, he, rfl⟩, h _ he ⟨_, Heap.get?_push_of_some _ (Heap.get?_push_size _ rfl), rfl, rfl⟩ (by rw [Heap.size_push, hz]) fun b o y => Heap.get?_push_of_some _ (Heap.get?_push_of_some _ y)⟩

theorem addr_no {a n : Nat} (h : a < n) (h' : a = n + 1 ∨ a = n) : False := by omega
theorem addr_no2 {a b n : Nat} (h : b < n) (e : a = b) (h' : a = n + 1 ∨ a = n) : False := by omega
/-- for i, c in enumerate(octets): an invariant over the turn's number, the frame's map and the ledger -/
theorem enum_loop {env : Env} {h₀ : Heap} {xi xc : PySem.Str} {body : List Stmt} {Q : Flow → Shared → Prop} {x : Array UInt8} {t : Tok} {ks : List Int} {m₀ : PySem.Str → Option Value} {news : List (Addr × Obj)}
    (J : Nat → (PySem.Str → Option Value) → List (Addr × Obj) → Prop) (hk : KBw.bInts x = ks)
    (hh : A.handled = none) (F : Fr h₀ env.locals s.heap m₀) (N : News h₀ env.locals s.heap news) (hj : J 0 m₀ news)
    (turn : ∀ (i : Nat) (t₁ t₂ : Tok) m₁ news₁ h tk own, i < ks.length → news₁.map (·.1) = news.map (·.1) → OwnOff own (news.map (·.1)) → J i m₁ news₁ →
      Fr h₀ env.locals h (fun y => if y = xc then some (.int (ks.getD i 0) t₂) else if y = xi then some (.int i t₁) else m₁ y) → News h₀ env.locals h (news₁ ++ own) →
      wpAny (model prog w) A (execs body env) (InvPostN h₀ env.locals (J (i + 1)) own (news.map (·.1)) { s with heap := h, toks := tk } Q) E { s with heap := h, toks := tk })
    (done : ∀ m₁ news₁ h tk, J ks.length m₁ news₁ → Fr h₀ env.locals h m₁ → News h₀ env.locals h news₁ → Q .next { s with heap := h, toks := tk }) :
    wpAny (model prog w) A (call (.type "enumerate") [.bytes x t]) (fun xv s₁ => wpAny (model prog w) A (pyIter xv) (fun it s₂ => PairAt3 prog w A h₀ env xi xc body Q E it s₂) E s₁) E s := by
  subst hk
  refine call_enum_bytes fun h' he hi hz keep => wpAny_pyIter_enum he ?_
  have hL : env.locals < s.heap.objs.size := F.ns.lt
  have hNlt : ∀ p ∈ news, p.1 < s.heap.objs.size := fun p hp => Heap.lt_size (N p hp).1
  refine ⟨s.heap.objs.size + 1, _, _, x.size, _, _, _, fun i v0 v1 => ∃ t₁ t₂ c, x[i]? = some c ∧ v0 = .int i t₁ ∧ v1 = .int (c.toNat : Int) t₂, m₀, news, fun i m n => n.map (·.1) = news.map (·.1) ∧ J i m n, rfl,
    WalksT.enumerateD (draws_bytes (A := A.in1) hh s.heap.objs.size x t) (s.heap.objs.size + 1) (Nat.succ_ne_self _) (by simp) (by simp), ?_, ?_, ?_, ?_, ⟨⟨.none, he⟩, hi⟩, ?_, ?_, ⟨rfl, hj⟩, ?_, ?_⟩
  · rintro i vals ⟨t₁, v, ⟨c, t₂, hc, rfl⟩, rfl⟩
    exact ⟨_, _, rfl, t₁, t₂, c, hc, rfl, rfl⟩
  · intro hm
    simp only [List.mem_cons, List.not_mem_nil, or_false] at hm
    exact addr_no hL hm
  · intro b hb
    cases hq : h₀.get? b with
    | none => rfl
    | some o =>
      have h1 := Heap.lt_size (F.keep b o hq)
      simp only [List.mem_cons, List.not_mem_nil, or_false] at hb
      exact (addr_no h1 hb).elim
  · intro p hp hm
    simp only [List.mem_cons, List.not_mem_nil, or_false] at hm
    exact addr_no (hNlt p hp) hm
  · obtain ⟨oL, es, ep, h1, r⟩ := F.ns
    exact ⟨⟨oL, es, ep, keep _ _ h1, r⟩, fun b o e => keep b o (F.keep b o e), F.above⟩
  · exact fun p hp => ⟨keep _ _ (N p hp).1, (N p hp).2⟩
  · rintro i v0 v1 m₁ news₁ s₁ own ⟨hh', tk', rfl⟩ hin ⟨t₁, t₂, c, hc, rfl, rfl⟩ ⟨hadr, hJ⟩ _ hown F₁ N₁
    have hoff : OwnOff own (news.map (·.1)) := by
      intro p hp b hb e
      obtain ⟨q, hq, rfl⟩ := List.mem_map.mp hb
      have h1 := hNlt q hq
      have h2 := hown p hp
      simp only [List.mem_cons, List.not_mem_nil, or_false] at h2
      exact addr_no2 h1 e h2
    have hv : (c.toNat : Int) = (KBw.bInts x).getD i 0 := by
      have := KBw.ints_get hc
      rw [List.getD_eq_getElem?_getD, this]; rfl
    rw [hv] at F₁
    refine wpAny_mono (turn i t₁ t₂ m₁ news₁ hh' tk' own (by rw [KBw.ints_length]; exact hin) hadr hoff hJ F₁ fun p hp => N₁ p ((List.mem_append.mp hp).elim (fun h => List.mem_append.mpr (.inr h)) fun h => List.mem_append.mpr (.inl h))) (fun f s₂ p => ?_) fun _ _ e => e
    have fin : InvEndN h₀ env.locals (J (i + 1)) own (news.map (·.1)) { s with heap := hh', toks := tk' } s₂ →
        LoopStep2 h₀ env.locals own news₁ (fun m n => n.map (·.1) = news.map (·.1) ∧ J (i + 1) m n) { s with heap := hh', toks := tk' } .next s₂ := by
      rintro ⟨h2, tk2, m2, n2, nx, rfl, F2, N2, hn, ho, ha, hm⟩
      exact ⟨rfl, h2, tk2, m2, nx, rfl, F2, fun p hp => N2 p ((List.mem_append.mp hp).elim (ho p) (hn p)), ha.trans hadr.symm, ha, hm⟩
    cases f with
    | ret v => exact p
    | brk => exact p
    | next => exact fin p
    | cont => exact fin p
  · rintro h2 tk2 m2 n2 F2 N2 _ ⟨_, hJ⟩
    rw [← KBw.ints_length] at hJ
    exact done m2 n2 h2 tk2 hJ F2 N2
theorem kst_enum {env : Env} {h₀ : Heap} {xi xc : PySem.Str} {body : List Stmt} {Q : Flow → Shared → Prop} {x : Array UInt8} {t : Tok} {ks : List Int} {m₀ : PySem.Str → Option Value}
    {σ : Type} (Led : σ → List (Addr × Obj)) (ps : σ → List (PySem.Str × Value)) (Facts : σ → Prop) (stored : List PySem.Str) (P : List Int → σ → Prop) (c₀ : σ) (hk : KBw.bInts x = ks)
    (hh : A.handled = none) (F : Fr h₀ env.locals s.heap m₀) (N : News h₀ env.locals s.heap (Led c₀)) (hf : Facts c₀) (hps : ∀ p ∈ ps c₀, m₀ p.1 = some p.2) (hp : P [] c₀)
    (turn : ∀ (c : σ) (i : Nat) (t₁ t₂ : Tok) (u : PySem.Str → Option Value) h tk own, i < ks.length → OwnOff own ((Led c₀).map (·.1)) → Facts c → P (ks.take i) c →
      Fr h₀ env.locals h (fun y => if y = xc then some (.int (ks.getD i 0) t₂) else if y = xi then some (.int i t₁) else kstB (fun z => if stored.contains z then u z else m₀ z) (ps c) y) → News h₀ env.locals h (Led c ++ own) →
      wpAny (model prog w) A (execs body env) (InvPostN h₀ env.locals (KstS Led ps Facts xc stored m₀ P (ks.take (i + 1))) own ((Led c₀).map (·.1)) { s with heap := h, toks := tk } Q) E { s with heap := h, toks := tk })
    (done : ∀ (c : σ) (u : PySem.Str → Option Value) h tk, Facts c → P ks c → Fr h₀ env.locals h (fun y => if y = xc then u y else kstB (fun z => if stored.contains z then u z else m₀ z) (ps c) y) → News h₀ env.locals h (Led c) → Q .next { s with heap := h, toks := tk }) :
    wpAny (model prog w) A (call (.type "enumerate") [.bytes x t]) (fun xv s₁ => wpAny (model prog w) A (pyIter xv) (fun it s₂ => PairAt3 prog w A h₀ env xi xc body Q E it s₂) E s₁) E s := by
  refine enum_loop (fun i m nx => KstS Led ps Facts xc stored m₀ P (ks.take i) m nx) hk hh F N ⟨c₀, rfl, hf, hps, fun _ _ _ _ => rfl, by simpa using hp⟩ ?_ ?_
  · rintro i t₁ t₂ m₁ nx h tk own hi _ hoff ⟨c, rfl, hf', h1, h2, hp'⟩ F₁ N₁
    have em : (fun y => if y = xc then some (Value.int (ks.getD i 0) t₂) else if y = xi then some (Value.int i t₁) else kstB (fun z => if stored.contains z then m₁ z else m₀ z) (ps c) y) = fun y => if y = xc then some (Value.int (ks.getD i 0) t₂) else if y = xi then some (Value.int i t₁) else m₁ y := by
      funext y
      by_cases hy : y = xc
      · rw [if_pos hy, if_pos hy]
      · rw [if_neg hy, if_neg hy, kst_off h1 h2 hy]
    refine turn c i t₁ t₂ m₁ h tk own hi hoff hf' hp' ?_ N₁
    rw [em]; exact F₁
  · rintro m₁ nx h tk ⟨c, rfl, hf', h1, h2, hp'⟩ F₁ N₁
    rw [List.take_length] at hp'
    exact done c m₁ h tk hf' hp' (kst_frOut h1 h2 F₁) N₁
end
end Mine
end

section
open PySem PySem.W PySem.Calls PyProof.Rows PyProof.V PySem.Spec PyProof.Rows.LCg PyProof.Rows.LCt
set_option Elab.async false
set_option maxRecDepth 100000
set_option maxHeartbeats 1000000
namespace Mine
def SrcB (prog : Program) (w : World) (A : Around) (h₀ : Heap) (L : Addr) (m : PySem.Str → Option Value) (env : Env) (elt : Expr) (x : PySem.Str) (scope : Scope) (cl : List (PySem.Str × Addr)) (Fin : Shared → List Value → List (Addr × Obj) → Prop) (xv : Value) (s₁ : Shared) : Prop :=
  ∃ b t news, xv = .bytes b t ∧ A.handled = none ∧ Fr h₀ L s₁.heap m ∧ News h₀ L s₁.heap news ∧ b.size ≤ sizeLine ∧
    ∀ s₂ : Shared, (∃ h, s₂ = { s₁ with heap := h }) → CompRest prog w A h₀ L m env elt x scope cl s₂ (fun _ => True) (fun i v => ∃ c u, b[i]? = some c ∧ v = .int (c.toNat : Int) u) (Fin s₂) b.size 0 [] news
def SrcBT (prog : Program) (w : World) (A : Around) (h₀ : Heap) (L : Addr) (m : PySem.Str → Option Value) (env : Env) (ct elt : Expr) (x : PySem.Str) (scope : Scope) (cl : List (PySem.Str × Addr)) (Fin : Shared → List Value → List (Addr × Obj) → Prop) (xv : Value) (s₁ : Shared) : Prop :=
  ∃ b t news, xv = .bytes b t ∧ A.handled = none ∧ Fr h₀ L s₁.heap m ∧ News h₀ L s₁.heap news ∧ b.size ≤ sizeLine ∧
    ∀ s₂ : Shared, (∃ h, s₂ = { s₁ with heap := h }) → CompRestT prog w A h₀ L m env ct elt x scope cl s₂ (fun _ => True) (fun i v => ∃ c u, b[i]? = some c ∧ v = .int (c.toNat : Int) u) (Fin s₂) b.size 0 [] news
section
variable {prog : Program} {w : World} {A : Around} {E : Value → Shared → Prop} {s : Shared} {h₀ : Heap} {L : Addr} {m : PySem.Str → Option Value} {env : Env}
theorem bytes_st {b : Array UInt8} {t : Tok} {I : Addr} : ∀ i (h h' : Heap) (o : Obj) (nw : List (Addr × Obj)), KBw.IsBytesIter h I b t i → h.get? I = some o → h'.get? I = some o → (∀ b o, h₀.get? b = some o → h'.get? b = some o) → News h₀ L h' nw → True → KBw.IsBytesIter h' I b t i :=
  fun i h h' o nw st e e' _ _ _ => by
    obtain ⟨o', ho, r⟩ := st
    rw [e] at ho
    cases ho
    exact ⟨o, e', r⟩
theorem ListComp_UB {elt iter : Expr} {x : PySem.Str} {px : Pos} {scope : Scope} {cl : List (PySem.Str × Addr)} {pos : Pos} {Q : Value → Shared → Prop} (F₀ : Fr h₀ L s.heap m)
    (hclos : closureFor scope env = pure cl) (hcell : ∀ y ∈ scope.names, y.2 ≠ .cell) (hkind : scope.kind = .function)
    (hnames : ∀ y ∈ scope.names, y.2 = .local → scope.names.lookup y.1 = some .local) (hx : scope.names.lookup x = some .local)
    (h : wpAny (model prog w) A (eval iter env) (SrcB prog w A h₀ L m env elt x scope cl (fun s₂ => FinE h₀ L m s₂ Q)) E s)
    (hs : ∀ x, foldedSetIterable iter env x = pure x := by intro _; rfl) :
    wpAny (model prog w) A (eval (.ListComp elt [⟨.Name x px, iter, [], 0⟩] scope pos) env) Q E s := by
  rw [eval_ListComp]
  refine wpAny_comprehension_free (use := none) rfl hs hclos hkind hnames (wpAny_mono h (fun xv s₁ h₁ => ?_) fun _ _ e => e)
  obtain ⟨b, t, news, rfl, hh, F, N, hsz, R⟩ := h₁
  refine KBw.pyIter_bytes ?_
  refine block_U (KBw.walks hh s₁.heap.objs.size b t) hsz (fun i h st => by obtain ⟨o, e, _⟩ := st; exact ⟨o, e⟩) bytes_st hcell hkind hx ⟨_, Heap.get?_push_size _ rfl, rfl, rfl⟩ (fun b hb => ?_)
    (F.keeps fun _ _ e => Heap.get?_push_of_some _ e) (N.grown fun _ _ e => Heap.get?_push_of_some _ e) (Nat.ne_of_lt F.ns.lt) (next_is_new F) (fun p hp => Nat.ne_of_lt (Heap.lt_size (N p hp).1)) trivial (R _ ⟨_, rfl⟩) ?_
  · rw [List.mem_singleton.mp hb]
    show s₁.heap.objs.size < (s₁.heap.push _).objs.size
    rw [Heap.size_push]; exact Nat.lt_succ_self _
  · intro D C h tk m' ys news' F' N' o1 hn hC₀ hD₀ hCL hDL hCD offC fin
    refine ⟨m', hn, fun h'' hs'' => fin D h'' tk (F'.change hs'' hCL hC₀) (fun p hp => ?_) o1⟩
    refine ⟨hs''.extBut _ _ ?_ (N' p hp).1, (N' p hp).2⟩
    rcases List.mem_cons.mp hp with rfl | hp
    · exact Ne.symm hCD
    · exact offC p hp
theorem ListComp_TB {ct elt iter : Expr} {x : PySem.Str} {px : Pos} {scope : Scope} {cl : List (PySem.Str × Addr)} {pos : Pos} {Q : Value → Shared → Prop} (F₀ : Fr h₀ L s.heap m)
    (hclos : closureFor scope env = pure cl) (hcell : ∀ y ∈ scope.names, y.2 ≠ .cell) (hkind : scope.kind = .function)
    (hnames : ∀ y ∈ scope.names, y.2 = .local → scope.names.lookup y.1 = some .local) (hx : scope.names.lookup x = some .local)
    (h : wpAny (model prog w) A (eval iter env) (SrcBT prog w A h₀ L m env ct elt x scope cl (fun s₂ => FinE h₀ L m s₂ Q)) E s)
    (hs : ∀ x, foldedSetIterable iter env x = pure x := by intro _; rfl) :
    wpAny (model prog w) A (eval (.ListComp elt [⟨.Name x px, iter, [ct], 0⟩] scope pos) env) Q E s := by
  rw [eval_ListComp]
  refine wpAny_comprehension_free (use := none) rfl hs hclos hkind hnames (wpAny_mono h (fun xv s₁ h₁ => ?_) fun _ _ e => e)
  obtain ⟨b, t, news, rfl, hh, F, N, hsz, R⟩ := h₁
  refine KBw.pyIter_bytes ?_
  refine block_T (KBw.walks hh s₁.heap.objs.size b t) hsz (fun i h st => by obtain ⟨o, e, _⟩ := st; exact ⟨o, e⟩) bytes_st hcell hkind hx ⟨_, Heap.get?_push_size _ rfl, rfl, rfl⟩ (fun b hb => ?_)
    (F.keeps fun _ _ e => Heap.get?_push_of_some _ e) (N.grown fun _ _ e => Heap.get?_push_of_some _ e) (Nat.ne_of_lt F.ns.lt) (next_is_new F) (fun p hp => Nat.ne_of_lt (Heap.lt_size (N p hp).1)) trivial (R _ ⟨_, rfl⟩) ?_
  · rw [List.mem_singleton.mp hb]
    show s₁.heap.objs.size < (s₁.heap.push _).objs.size
    rw [Heap.size_push]; exact Nat.lt_succ_self _
  · intro D C h tk m' ys news' F' N' o1 hn hC₀ hD₀ hCL hDL hCD offC fin
    refine ⟨m', hn, fun h'' hs'' => fin D h'' tk (F'.change hs'' hCL hC₀) (fun p hp => ?_) o1⟩
    refine ⟨hs''.extBut _ _ ?_ (N' p hp).1, (N' p hp).2⟩
    rcases List.mem_cons.mp hp with rfl | hp
    · exact Ne.symm hCD
    · exact offC p hp
theorem bytes_P {b : Array UInt8} {ks : List Int} (hb : KBw.bInts b = ks) : ∀ i v, i < b.size → (∃ c u, b[i]? = some c ∧ v = Value.int (c.toNat : Int) u) → ∃ k t, ks[i]? = some k ∧ v = .int k t := by
  subst hb
  rintro i v _ ⟨c, u, hc, rfl⟩
  exact ⟨_, u, KBw.ints_get hc, rfl⟩
theorem src_if {ct elt : Expr} {x : PySem.Str} {scope : Scope} {cl : List (PySem.Str × Addr)} {Fin : Shared → List Value → List (Addr × Obj) → Prop} {s₁ : Shared} {b : Array UInt8} {t : Tok} {ks : List Int} {news : List (Addr × Obj)} (G : List Int → Int → List Int) (hb : KBw.bInts b = ks)
    (hh : A.handled = none) (F : Fr h₀ L s₁.heap m) (N : News h₀ L s₁.heap news) (hz : b.size ≤ sizeLine)
    (turn : ∀ g k t I oI C oC D m₂ ys l h tk (E' : Value → Shared → Prop), k ∈ ks → IntsAre ys l → LCg.NsObj oC m₂ → m₂ x = some (.int k t) → Fr h₀ L h m → News h₀ L h ((I, oI) :: (C, oC) :: (D, LCg.lst ys) :: news) → LCg.Off3 I C D news → ((@Ne Nat I C) ∧ (@Ne Nat I D) ∧ (@Ne Nat C D)) → KPfMark →
      wpAny (model prog w) A (isTrue ct (compEnvC scope cl C env) (eval ct (compEnvC scope cl C env))) (fun b s' => if b = true then wpAny (model prog w) A (eval elt (compEnvC scope cl C env)) (LCg.CompEnd h₀ L m { ({ s₁ with heap := g } : Shared) with heap := h, toks := tk } I oI C oC D (LCg.lst ys) (fun _ => True) (fun y news' => KCiEl news l (G l k) y news')) E' s'
        else LCg.CompEnd h₀ L m { ({ s₁ with heap := g } : Shared) with heap := h, toks := tk } I oI C oC D (LCg.lst ys) (fun _ => True) (fun _ news' => KCiNo news l (G l k) news') Value.none s') E' { ({ s₁ with heap := g } : Shared) with heap := h, toks := tk })
    (fin : ∀ g, KPfDone (∀ ys, IntsAre ys (ks.foldl G []) → ys.length ≤ b.size → Fin { s₁ with heap := g } ys news)) (hg : KPfGrows G) :
    SrcBT prog w A h₀ L m env ct elt x scope cl Fin (.bytes b t) s₁ :=
  ⟨b, t, news, rfl, hh, F, N, hz, fun _ ⟨g, e⟩ => e ▸ kci_rest (ks := ks) G (by rw [← hb, KBw.ints_length]) (bytes_P hb) (turn g) (fin g) hg⟩
theorem src_text {elt : Expr} {x : PySem.Str} {scope : Scope} {cl : List (PySem.Str × Addr)} {Fin : Shared → List Value → List (Addr × Obj) → Prop} {s₁ : Shared} {b : Array UInt8} {t : Tok} {ks : List Int} {news : List (Addr × Obj)} (g : Int → PySem.Str) (hb : KBw.bInts b = ks)
    (hh : A.handled = none) (F : Fr h₀ L s₁.heap m) (N : News h₀ L s₁.heap news) (hz : b.size ≤ sizeLine)
    (turn : ∀ z k t I oI C oC D m₂ ys h tk (E' : Value → Shared → Prop), k ∈ ks → LCg.NsObj oC m₂ → m₂ x = some (.int k t) → Fr h₀ L h m → News h₀ L h ((I, oI) :: (C, oC) :: (D, LCg.lst ys) :: news) → LCg.Off3 I C D news → ((@Ne Nat I C) ∧ (@Ne Nat I D) ∧ (@Ne Nat C D)) → KPfMark →
      wpAny (model prog w) A (eval elt (compEnvC scope cl C env)) (LCg.CompEnd h₀ L m { ({ s₁ with heap := z } : Shared) with heap := h, toks := tk } I oI C oC D (LCg.lst ys) (fun _ => True) (fun y news' => KCtEl news (g k) y news')) E' { ({ s₁ with heap := z } : Shared) with heap := h, toks := tk })
    (fin : ∀ z, KPfDone (∀ ys, CarriedAll ys (ks.map fun k => PyData.str (g k)) → ks.length = b.size → Fin { s₁ with heap := z } ys news)) :
    SrcB prog w A h₀ L m env elt x scope cl Fin (.bytes b t) s₁ :=
  ⟨b, t, news, rfl, hh, F, N, hz, fun _ ⟨z, e⟩ => e ▸ kct_rest (ks := ks) g (by rw [← hb, KBw.ints_length]) (bytes_P hb) (turn z) (fin z)⟩
end
end Mine
end

section
open PySem PySem.W PySem.Calls PyProof.Rows PyProof.V PySem.Spec PySem.SeqAt
set_option Elab.async false
set_option maxRecDepth 100000
namespace Mine
theorem ints_one : ∀ {l r : List UInt8}, (l.map fun c => (c.toNat : Int)) = r.map (fun c => (c.toNat : Int)) → l = r
  | [], [], _ => rfl
  | [], _ :: _, h => by cases h
  | _ :: _, [], h => by cases h
  | a :: l, b :: r, h => by
    injection h with h1 h2
    have : a = b := UInt8.toNat_inj.mp (Int.ofNat.inj h1)
    rw [this, ints_one h2]
theorem bytes_one {b c : Array UInt8} {ks : List Int} (hb : KBw.bInts b = ks) (hc : KBw.bInts c = ks) : b = c := by
  apply Array.toList_inj.mp
  exact ints_one (hb.trans hc.symm)
section
variable {prog : Program} {w : World} {A : Around} {E : Value → Shared → Prop} {s : Shared}
theorem at_bytes {b c : Array UInt8} {t u : Tok} {ks : List Int} (hb : KBw.bInts b = ks) (hc : KBw.bInts c = ks) : EqAt A s (.bytes b t) (.bytes c u) true := fun prog w E Q h => by
  have e := bytes_one hb hc
  subst e
  refine PySem.W.eqBool_bytes ?_
  rw [decide_eq_true rfl]
  exact h
theorem at_int {i j : Int} {t u : Tok} (e : i = j) : EqAt A s (.int i t) (.int j u) true := by
  subst e
  have := EqAt.int_int (A := A) (s := s) i t i u
  rw [beq_self_eq_true] at this
  exact this
theorem at_str {i j : PySem.Str} {t u : Tok} (e : i = j) : EqAt A s (.str i t) (.str j u) true := by
  subst e
  have := EqAt.str_str (A := A) (s := s) i t i u
  rw [beq_self_eq_true] at this
  exact this
theorem ne_bytes_same {b c : Array UInt8} {t u : Tok} {ks ms : List Int} {Q : Value → Shared → Prop} (hb : KBw.bInts b = ks) (hc : KBw.bInts c = ms) (e : ks = ms) (h : Q (.bool false) s) : wpAny (model prog w) A (compareOp .NotEq (.bytes b t) (.bytes c u)) Q E s := by
  have e' := bytes_one hb (hc.trans e.symm)
  subst e'
  refine ne_bytes ?_
  rw [bne_self_eq_false]
  exact h
theorem eq_bytes_same {b c : Array UInt8} {t u : Tok} {ks ms : List Int} {Q : Value → Shared → Prop} (hb : KBw.bInts b = ks) (hc : KBw.bInts c = ms) (e : ks = ms) (h : Q (.bool true) s) : wpAny (model prog w) A (compareOp .Eq (.bytes b t) (.bytes c u)) Q E s := by
  have e' := bytes_one hb (hc.trans e.symm)
  subst e'
  refine eq_bytes ?_
  rw [beq_self_eq_true]
  exact h
theorem ne_tup2 {a b : Addr} {x1 x2 y1 y2 : Value} {m n : Nat} {Q : Value → Shared → Prop} {h₀ : Heap} {L : Addr} {news : List (Addr × Obj)} (N : News h₀ L s.heap news)
    (ha : (a, ({ cls := .type "tuple", data := .seq #[x1, x2] m } : Obj)) ∈ news) (hb : (b, ({ cls := .type "tuple", data := .seq #[y1, y2] n } : Obj)) ∈ news)
    (hu : A.units < cLine) (h1 : EqAt A.in1 s x1 y1 true) (h2 : EqAt A.in1 s x2 y2 true) (h : Q (.bool false) s) : wpAny (model prog w) A (compareOp .NotEq (.ref a) (.ref b)) Q E s := by
  refine (RcNeAt.tuples (e := fun _ => true) ⟨_, N.get ha, rfl, _, rfl⟩ ⟨_, N.get hb, rfl, _, rfl⟩ hu ?_) prog w E Q h
  intro j hj _
  match j, hj with
  | 0, _ => exact h1
  | 1, _ => exact h2
  | j + 2, hj => exact absurd hj (by simp)
theorem ne_tup3 {a b : Addr} {x1 x2 x3 y1 y2 y3 : Value} {m n : Nat} {Q : Value → Shared → Prop} {h₀ : Heap} {L : Addr} {news : List (Addr × Obj)} (N : News h₀ L s.heap news)
    (ha : (a, ({ cls := .type "tuple", data := .seq #[x1, x2, x3] m } : Obj)) ∈ news) (hb : (b, ({ cls := .type "tuple", data := .seq #[y1, y2, y3] n } : Obj)) ∈ news)
    (hu : A.units < cLine) (h1 : EqAt A.in1 s x1 y1 true) (h2 : EqAt A.in1 s x2 y2 true) (h3 : EqAt A.in1 s x3 y3 true) (h : Q (.bool false) s) : wpAny (model prog w) A (compareOp .NotEq (.ref a) (.ref b)) Q E s := by
  refine (RcNeAt.tuples (e := fun _ => true) ⟨_, N.get ha, rfl, _, rfl⟩ ⟨_, N.get hb, rfl, _, rfl⟩ hu ?_) prog w E Q h
  intro j hj _
  match j, hj with
  | 0, _ => exact h1
  | 1, _ => exact h2
  | 2, _ => exact h3
  | j + 3, hj => exact absurd hj (by simp)
end
end Mine
end

section
open PySem PySem.W PySem.Calls PyProof.Rows PyProof.V PySem.Spec PyProof.Rows.LCg PyProof.Rows.LCt
set_option Elab.async false
set_option maxRecDepth 100000
set_option maxHeartbeats 1000000
namespace Mine
/-- a comprehension without a test over a range of step 2 -/
def SrcR2 (prog : Program) (w : World) (A : Around) (h₀ : Heap) (L : Addr) (m : PySem.Str → Option Value) (env : Env) (elt : Expr) (x : PySem.Str) (scope : Scope) (cl : List (PySem.Str × Addr)) (Fin : Shared → List Value → List (Addr × Obj) → Prop) (xv : Value) (s₁ : Shared) : Prop :=
  ∃ r a b t u v n news, xv = .ref r ∧ A.handled = none ∧ Fr h₀ L s₁.heap m ∧ News h₀ L s₁.heap news ∧ IsRange s₁.heap r a b 2 t u v ∧ Builtin.Range.small a b 2 = true ∧ Builtin.Range.rangeSize a b 2 = ((n : Nat) : Int) ∧ n ≤ sizeLine ∧
    ∀ s₂ : Shared, (∃ h, s₂ = { s₁ with heap := h }) → CompRest prog w A h₀ L m env elt x scope cl s₂ (fun _ => True) (fun i v => i < n ∧ ∃ t, v = .int (a + (i : Int) * 2) t) (Fin s₂) n 0 [] news
section
variable {prog : Program} {w : World} {A : Around} {E : Value → Shared → Prop} {s : Shared} {h₀ : Heap} {L : Addr} {m : PySem.Str → Option Value} {env : Env}
theorem range2_st {I : Addr} {a : Int} {n : Nat} : ∀ i (h h' : Heap) (o : Obj) (nw : List (Addr × Obj)), IsRangeIter h I (a + (i : Nat) * 2) ((n : Int) - (i : Nat)) 2 → h.get? I = some o → h'.get? I = some o → (∀ b o, h₀.get? b = some o → h'.get? b = some o) → News h₀ L h' nw → True → IsRangeIter h' I (a + (i : Nat) * 2) ((n : Int) - (i : Nat)) 2 :=
  fun i h h' o nw st e e' _ _ _ => by
    have st' : h.get? I = some _ := st
    show h'.get? I = some _
    rw [e', ← e]; exact st'
theorem ListComp_UR {elt iter : Expr} {x : PySem.Str} {px : Pos} {scope : Scope} {cl : List (PySem.Str × Addr)} {pos : Pos} {Q : Value → Shared → Prop} (F₀ : Fr h₀ L s.heap m)
    (hclos : closureFor scope env = pure cl) (hcell : ∀ y ∈ scope.names, y.2 ≠ .cell) (hkind : scope.kind = .function)
    (hnames : ∀ y ∈ scope.names, y.2 = .local → scope.names.lookup y.1 = some .local) (hx : scope.names.lookup x = some .local)
    (h : wpAny (model prog w) A (eval iter env) (SrcR2 prog w A h₀ L m env elt x scope cl (fun s₂ => FinE h₀ L m s₂ Q)) E s)
    (hs : ∀ x, foldedSetIterable iter env x = pure x := by intro _; rfl) :
    wpAny (model prog w) A (eval (.ListComp elt [⟨.Name x px, iter, [], 0⟩] scope pos) env) Q E s := by
  rw [eval_ListComp]
  refine wpAny_comprehension_free (use := none) rfl hs hclos hkind hnames (wpAny_mono h (fun xv s₁ h₁ => ?_) fun _ _ e => e)
  obtain ⟨r, a, b, t, u, v, n, news, rfl, hh, F, N, hr, hsm, hn, hsz, R⟩ := h₁
  refine wpAny_pyIter_range hr hsm ?_
  have W : Walks prog w A s₁.heap.objs.size [s₁.heap.objs.size] [s₁.heap.objs.size] n (fun i v => i < n ∧ ∃ t, v = .int (a + (i : Int) * 2) t) (fun i h => IsRangeIter h s₁.heap.objs.size (a + (i : Nat) * 2) ((n : Int) - (i : Nat)) 2) := (Walks.range hh s₁.heap.objs.size a 2 n).bound
  refine block_U W hsz (fun i h st => ⟨_, st⟩) range2_st hcell hkind hx (by show IsRangeIter _ _ _ _ _; rw [hn]; simpa using Heap.get?_push_size _ rfl) (fun b hb => ?_)
    (F.keeps fun _ _ e => Heap.get?_push_of_some _ e) (N.grown fun _ _ e => Heap.get?_push_of_some _ e) (Nat.ne_of_lt F.ns.lt) (next_is_new F) (fun p hp => Nat.ne_of_lt (Heap.lt_size (N p hp).1)) trivial (R _ ⟨_, rfl⟩) ?_
  · rw [List.mem_singleton.mp hb]
    show s₁.heap.objs.size < (s₁.heap.push _).objs.size
    rw [Heap.size_push]; exact Nat.lt_succ_self _
  · intro D C h tk m' ys news' F' N' o1 hn hC₀ hD₀ hCL hDL hCD offC fin
    refine ⟨m', hn, fun h'' hs'' => fin D h'' tk (F'.change hs'' hCL hC₀) (fun p hp => ?_) o1⟩
    refine ⟨hs''.extBut _ _ ?_ (N' p hp).1, (N' p hp).2⟩
    rcases List.mem_cons.mp hp with rfl | hp
    · exact Ne.symm hCD
    · exact offC p hp
def evens (a : Int) (n : Nat) : List Int := (List.range n).map fun i : Nat => a + (i : Int) * 2
theorem src_even {elt : Expr} {x : PySem.Str} {scope : Scope} {cl : List (PySem.Str × Addr)} {Fin : Shared → List Value → List (Addr × Obj) → Prop} {s₁ : Shared} {r : Addr} {a b : Int} {t u v : Tok} {n : Nat} {news : List (Addr × Obj)} (g : Int → Int)
    (hh : A.handled = none) (F : Fr h₀ L s₁.heap m) (N : News h₀ L s₁.heap news) (hr : IsRange s₁.heap r a b 2 t u v) (hsm : Builtin.Range.small a b 2 = true) (hn : Builtin.Range.rangeSize a b 2 = ((n : Nat) : Int)) (hz : n ≤ sizeLine)
    (turn : ∀ z k t I oI C oC D m₂ ys h tk (E' : Value → Shared → Prop), k ∈ evens a n → LCg.NsObj oC m₂ → m₂ x = some (.int k t) → Fr h₀ L h m → News h₀ L h ((I, oI) :: (C, oC) :: (D, LCg.lst ys) :: news) → LCg.Off3 I C D news → ((@Ne Nat I C) ∧ (@Ne Nat I D) ∧ (@Ne Nat C D)) → KPfMark →
      wpAny (model prog w) A (eval elt (compEnvC scope cl C env)) (LCg.CompEnd h₀ L m { ({ s₁ with heap := z } : Shared) with heap := h, toks := tk } I oI C oC D (LCg.lst ys) (fun _ => True) (fun y news' => KCfEl news (g k) y news')) E' { ({ s₁ with heap := z } : Shared) with heap := h, toks := tk })
    (fin : ∀ z, KPfDone (∀ ys, IntsAre ys ((evens a n).map g) → Fin { s₁ with heap := z } ys news)) :
    SrcR2 prog w A h₀ L m env elt x scope cl Fin (.ref r) s₁ :=
  ⟨r, a, b, t, u, v, n, news, rfl, hh, F, N, hr, hsm, hn, hz, fun _ ⟨z, e⟩ => e ▸ kcf_rest (ks := evens a n) g (by simp [evens]) (fun i v hi hv => by
    obtain ⟨_, t, e⟩ := hv
    exact ⟨a + (i : Int) * 2, t, by simp [evens, hi], e⟩) (turn z) (fin z)⟩
end
end Mine
end

section
open PySem PySem.W PySem.Calls PyProof.Rows PyProof.V PySem.Spec
set_option Elab.async false
set_option maxRecDepth 100000
namespace Mine
section
variable {prog : Program} {w : World} {A : Around} {E : Value → Shared → Prop} {s : Shared} {h₀ : Heap} {L a : Addr} {m : PySem.Str → Option Value} {K : Frag}
/-- a number sought in a tuple of numbers at the top -/
theorem in_top {l : List Value} {dd : Option Addr} {sl : Array (Option Value)} {n : Nat} {ns : List Int} {x : Int} {u : Tok} {b : Bool} {Q : Value → Shared → Prop} (F : Fr h₀ L s.heap m) (X₀ : K.In h₀) (hl : K.lookup a = some ⟨.type "tuple", dd, .seq l.toArray n, sl⟩)
    (hi : IntsAre l ns) (e : ns.any (· == x) = b) (h : Q (.bool b) s) : wpAny (model prog w) A (compareOp .In (.int x u) (.ref a)) Q E s :=
  in_tuple_ints (tupK (X₀.keeps F.keep) hl) hi (by rw [e]; exact h)
end
end Mine
end

section
open PySem PySem.W PySem.Calls PyProof.Rows PyProof.V PySem.Spec PyProof.Rows.LCg PyProof.Rows.LCt
set_option Elab.async false
set_option maxRecDepth 100000
set_option maxHeartbeats 1000000
namespace Mine
/-- a comprehension without a test over a text -/
def SrcS (prog : Program) (w : World) (A : Around) (h₀ : Heap) (L : Addr) (m : PySem.Str → Option Value) (env : Env) (elt : Expr) (x : PySem.Str) (scope : Scope) (cl : List (PySem.Str × Addr)) (Fin : Shared → List Value → List (Addr × Obj) → Prop) (xv : Value) (s₁ : Shared) : Prop :=
  ∃ b t news, xv = .str b t ∧ A.handled = none ∧ Fr h₀ L s₁.heap m ∧ News h₀ L s₁.heap news ∧ b.cps.size ≤ sizeLine ∧
    ∀ s₂ : Shared, (∃ h, s₂ = { s₁ with heap := h }) → CompRest prog w A h₀ L m env elt x scope cl s₂ (fun _ => True) (SignAt b) (Fin s₂) b.cps.size 0 [] news
section
variable {prog : Program} {w : World} {A : Around} {E : Value → Shared → Prop} {s : Shared} {h₀ : Heap} {L : Addr} {m : PySem.Str → Option Value} {env : Env}
theorem str_st {b : PySem.Str} {T : String} {t : Tok} {I : Addr} : ∀ i (h h' : Heap) (o : Obj) (nw : List (Addr × Obj)), h.IsStrIter I T b t i → h.get? I = some o → h'.get? I = some o → (∀ b o, h₀.get? b = some o → h'.get? b = some o) → News h₀ L h' nw → True → h'.IsStrIter I T b t i :=
  fun i h h' o nw st e e' _ _ _ => by
    obtain ⟨o', ho, r⟩ := st
    rw [e] at ho
    cases ho
    exact ⟨o, e', r⟩
theorem ListComp_US {elt iter : Expr} {x : PySem.Str} {px : Pos} {scope : Scope} {cl : List (PySem.Str × Addr)} {pos : Pos} {Q : Value → Shared → Prop} (F₀ : Fr h₀ L s.heap m)
    (hclos : closureFor scope env = pure cl) (hcell : ∀ y ∈ scope.names, y.2 ≠ .cell) (hkind : scope.kind = .function)
    (hnames : ∀ y ∈ scope.names, y.2 = .local → scope.names.lookup y.1 = some .local) (hx : scope.names.lookup x = some .local)
    (h : wpAny (model prog w) A (eval iter env) (SrcS prog w A h₀ L m env elt x scope cl (fun s₂ => FinE h₀ L m s₂ Q)) E s)
    (hs : ∀ x, foldedSetIterable iter env x = pure x := by intro _; rfl) :
    wpAny (model prog w) A (eval (.ListComp elt [⟨.Name x px, iter, [], 0⟩] scope pos) env) Q E s := by
  rw [eval_ListComp]
  refine wpAny_comprehension_free (use := none) rfl hs hclos hkind hnames (wpAny_mono h (fun xv s₁ h₁ => ?_) fun _ _ e => e)
  obtain ⟨b, t, news, rfl, hh, F, N, hsz, R⟩ := h₁
  cases ha : b.cps.all (· < 128)
  · refine wpAny_pyIter_wide ha ?_
    refine block_U (Walks.strWide hh s₁.heap.objs.size b t) hsz (fun i h st => by obtain ⟨o, e, _⟩ := st; exact ⟨o, e⟩) str_st hcell hkind hx ⟨_, Heap.get?_push_size _ rfl, rfl, rfl⟩ (fun b hb => ?_)
      (F.keeps fun _ _ e => Heap.get?_push_of_some _ e) (N.grown fun _ _ e => Heap.get?_push_of_some _ e) (Nat.ne_of_lt F.ns.lt) (next_is_new F) (fun p hp => Nat.ne_of_lt (Heap.lt_size (N p hp).1)) trivial (R _ ⟨_, rfl⟩) ?_
    · rw [List.mem_singleton.mp hb]
      show s₁.heap.objs.size < (s₁.heap.push _).objs.size
      rw [Heap.size_push]; exact Nat.lt_succ_self _
    · intro D C h tk m' ys news' F' N' o1 hn hC₀ hD₀ hCL hDL hCD offC fin
      refine ⟨m', hn, fun h'' hs'' => fin D h'' tk (F'.change hs'' hCL hC₀) (fun p hp => ?_) o1⟩
      refine ⟨hs''.extBut _ _ ?_ (N' p hp).1, (N' p hp).2⟩
      rcases List.mem_cons.mp hp with rfl | hp
      · exact Ne.symm hCD
      · exact offC p hp
  · refine wpAny_pyIter_ascii ha ?_
    refine block_U (Walks.strAscii hh s₁.heap.objs.size b t) hsz (fun i h st => by obtain ⟨o, e, _⟩ := st; exact ⟨o, e⟩) str_st hcell hkind hx ⟨_, Heap.get?_push_size _ rfl, rfl, rfl⟩ (fun b hb => ?_)
      (F.keeps fun _ _ e => Heap.get?_push_of_some _ e) (N.grown fun _ _ e => Heap.get?_push_of_some _ e) (Nat.ne_of_lt F.ns.lt) (next_is_new F) (fun p hp => Nat.ne_of_lt (Heap.lt_size (N p hp).1)) trivial (R _ ⟨_, rfl⟩) ?_
    · rw [List.mem_singleton.mp hb]
      show s₁.heap.objs.size < (s₁.heap.push _).objs.size
      rw [Heap.size_push]; exact Nat.lt_succ_self _
    · intro D C h tk m' ys news' F' N' o1 hn hC₀ hD₀ hCL hDL hCD offC fin
      refine ⟨m', hn, fun h'' hs'' => fin D h'' tk (F'.change hs'' hCL hC₀) (fun p hp => ?_) o1⟩
      refine ⟨hs''.extBut _ _ ?_ (N' p hp).1, (N' p hp).2⟩
      rcases List.mem_cons.mp hp with rfl | hp
      · exact Ne.symm hCD
      · exact offC p hp
theorem sign_rest {elt : Expr} {x : PySem.Str} {scope : Scope} {cl : List (PySem.Str × Addr)} {S : List (Addr × Obj) → Prop} {P : Nat → Value → Prop} {Fin : List Value → List (Addr × Obj) → Prop} {news : List (Addr × Obj)} {n : Nat} {ks : List Nat} (hks : ks.length = n) (hP : ∀ i v, i < n → P i v → ∃ k t, ks[i]? = some k ∧ v = .str ⟨#[k]⟩ t)
    (turn : ∀ k t I oI C oC D m₂ ys h tk (E' : Value → Shared → Prop), k ∈ ks → LCg.NsObj oC m₂ → m₂ x = some (.str ⟨#[k]⟩ t) → Fr h₀ L h m → News h₀ L h ((I, oI) :: (C, oC) :: (D, LCg.lst ys) :: news) → LCg.Off3 I C D news → ((@Ne Nat I C) ∧ (@Ne Nat I D) ∧ (@Ne Nat C D)) → KPfMark →
      wpAny (model prog w) A (eval elt (compEnvC scope cl C env)) (LCg.CompEnd h₀ L m { s with heap := h, toks := tk } I oI C oC D (LCg.lst ys) S (fun y news' => KCfEl news (k : Int) y news')) E' { s with heap := h, toks := tk })
    (fin : KPfDone (∀ ys, IntsAre ys (ks.map fun k : Nat => (k : Int)) → Fin ys news)) : LCg.CompRest prog w A h₀ L m env elt x scope cl s S P Fin n 0 [] news := by
  unfold KPfDone at fin
  have key : ∀ (j i : Nat) (ys : List Value), i + j = n → IntsAre ys ((ks.take i).map fun k : Nat => (k : Int)) → LCg.CompRest prog w A h₀ L m env elt x scope cl s S P Fin j i ys news := by
    intro j
    induction j with
    | zero =>
      intro i ys hi hy
      have e : i = ks.length := by omega
      subst e
      rw [List.take_length] at hy
      exact LCg.CompRest.zero (fin ys hy)
    | succ j ih =>
      intro i ys hi hy
      refine LCg.CompRest.succ ?_
      intro v I oI C oC D m₂ h tk E' hv hC hx F N off ne
      obtain ⟨k, t, hk, hv'⟩ := hP i v (by omega) hv
      rw [hv'] at hx
      refine wpAny_mono (turn k t I oI C oC D m₂ ys h tk E' (List.mem_of_getElem? hk) hC hx F N off ne True.intro) (fun y s₂ hq => ?_) fun _ _ e => e
      obtain ⟨h', tk', nw, e, F', N', off', hS, hn, t', hy'⟩ := hq
      rw [hn] at N' off' hS
      refine ⟨h', tk', news, e, F', N', off', hS, ?_⟩
      rw [hy']
      refine ih (i + 1) _ (by omega) ?_
      rw [List.take_add_one, hk]
      simpa using IntsAre.append hy (.cons (k : Int) t' .nil)
  exact key n 0 [] (by omega) (by simp only [List.take_zero, List.map_nil]; exact .nil)
theorem src_sign {elt : Expr} {x : PySem.Str} {scope : Scope} {cl : List (PySem.Str × Addr)} {Fin : Shared → List Value → List (Addr × Obj) → Prop} {s₁ : Shared} {b : PySem.Str} {t : Tok} {ks : List Nat} {news : List (Addr × Obj)} (hb : b.cps.toList = ks)
    (hh : A.handled = none) (F : Fr h₀ L s₁.heap m) (N : News h₀ L s₁.heap news) (hz : ks.length ≤ sizeLine)
    (turn : ∀ z k t I oI C oC D m₂ ys h tk (E' : Value → Shared → Prop), k ∈ ks → LCg.NsObj oC m₂ → m₂ x = some (.str ⟨#[k]⟩ t) → Fr h₀ L h m → News h₀ L h ((I, oI) :: (C, oC) :: (D, LCg.lst ys) :: news) → LCg.Off3 I C D news → ((@Ne Nat I C) ∧ (@Ne Nat I D) ∧ (@Ne Nat C D)) → KPfMark →
      wpAny (model prog w) A (eval elt (compEnvC scope cl C env)) (LCg.CompEnd h₀ L m { ({ s₁ with heap := z } : Shared) with heap := h, toks := tk } I oI C oC D (LCg.lst ys) (fun _ => True) (fun y news' => KCfEl news (k : Int) y news')) E' { ({ s₁ with heap := z } : Shared) with heap := h, toks := tk })
    (fin : ∀ z, KPfDone (∀ ys, IntsAre ys (ks.map fun k : Nat => (k : Int)) → Fin { s₁ with heap := z } ys news)) :
    SrcS prog w A h₀ L m env elt x scope cl Fin (.str b t) s₁ := by
  have hl : ks.length = b.cps.size := by rw [← hb, Array.length_toList]
  exact ⟨b, t, news, rfl, hh, F, N, by omega, fun _ ⟨z, e⟩ => e ▸ sign_rest (ks := ks) hl (fun i v hi hv => by
    obtain ⟨c, u, hc, e⟩ := hv
    exact ⟨c, u, by rw [← hb]; simpa using hc, e⟩) (turn z) (fin z)⟩
end
end Mine
end

section
open PySem PySem.W PySem.Calls PyProof.Rows PyProof.V PySem.Spec PyProof.Rows.LCg PyProof.Rows.LCt
set_option Elab.async false
set_option maxRecDepth 100000
set_option maxHeartbeats 1000000
namespace Mine
/-- a comprehension without a test over a range of step 1, whose element may change the ledger -/
def SrcR1 (prog : Program) (w : World) (A : Around) (h₀ : Heap) (L : Addr) (m : PySem.Str → Option Value) (env : Env) (elt : Expr) (x : PySem.Str) (scope : Scope) (cl : List (PySem.Str × Addr)) (Fin : Shared → List Value → List (Addr × Obj) → Prop) (xv : Value) (s₁ : Shared) : Prop :=
  ∃ r a b t u v n news, xv = .ref r ∧ A.handled = none ∧ Fr h₀ L s₁.heap m ∧ News h₀ L s₁.heap news ∧ IsRange s₁.heap r a b 1 t u v ∧ Builtin.Range.small a b 1 = true ∧ Builtin.Range.rangeSize a b 1 = ((n : Nat) : Int) ∧ n ≤ sizeLine ∧
    ∀ s₂ : Shared, (∃ h, s₂ = { s₁ with heap := h }) → CompRest prog w A h₀ L m env elt x scope cl s₂ (fun _ => True) (fun i v => i < n ∧ ∃ t, v = .int (a + (i : Int) * 1) t) (Fin s₂) n 0 [] news
section
variable {prog : Program} {w : World} {A : Around} {E : Value → Shared → Prop} {s : Shared} {h₀ : Heap} {L : Addr} {m : PySem.Str → Option Value} {env : Env}
theorem range1_st {I : Addr} {a : Int} {n : Nat} : ∀ i (h h' : Heap) (o : Obj) (nw : List (Addr × Obj)), IsRangeIter h I (a + (i : Nat) * 1) ((n : Int) - (i : Nat)) 1 → h.get? I = some o → h'.get? I = some o → (∀ b o, h₀.get? b = some o → h'.get? b = some o) → News h₀ L h' nw → True → IsRangeIter h' I (a + (i : Nat) * 1) ((n : Int) - (i : Nat)) 1 :=
  fun i h h' o nw st e e' _ _ _ => by
    have st' : h.get? I = some _ := st
    show h'.get? I = some _
    rw [e', ← e]; exact st'
theorem ListComp_UR1 {elt iter : Expr} {x : PySem.Str} {px : Pos} {scope : Scope} {cl : List (PySem.Str × Addr)} {pos : Pos} {Q : Value → Shared → Prop} (F₀ : Fr h₀ L s.heap m)
    (hclos : closureFor scope env = pure cl) (hcell : ∀ y ∈ scope.names, y.2 ≠ .cell) (hkind : scope.kind = .function)
    (hnames : ∀ y ∈ scope.names, y.2 = .local → scope.names.lookup y.1 = some .local) (hx : scope.names.lookup x = some .local)
    (h : wpAny (model prog w) A (eval iter env) (SrcR1 prog w A h₀ L m env elt x scope cl (fun s₂ => FinE h₀ L m s₂ Q)) E s)
    (hs : ∀ x, foldedSetIterable iter env x = pure x := by intro _; rfl) :
    wpAny (model prog w) A (eval (.ListComp elt [⟨.Name x px, iter, [], 0⟩] scope pos) env) Q E s := by
  rw [eval_ListComp]
  refine wpAny_comprehension_free (use := none) rfl hs hclos hkind hnames (wpAny_mono h (fun xv s₁ h₁ => ?_) fun _ _ e => e)
  obtain ⟨r, a, b, t, u, v, n, news, rfl, hh, F, N, hr, hsm, hn, hsz, R⟩ := h₁
  refine wpAny_pyIter_range hr hsm ?_
  have W : Walks prog w A s₁.heap.objs.size [s₁.heap.objs.size] [s₁.heap.objs.size] n (fun i v => i < n ∧ ∃ t, v = .int (a + (i : Int) * 1) t) (fun i h => IsRangeIter h s₁.heap.objs.size (a + (i : Nat) * 1) ((n : Int) - (i : Nat)) 1) := (Walks.range hh s₁.heap.objs.size a 1 n).bound
  refine block_U W hsz (fun i h st => ⟨_, st⟩) range1_st hcell hkind hx (by show IsRangeIter _ _ _ _ _; rw [hn]; simpa using Heap.get?_push_size _ rfl) (fun b hb => ?_)
    (F.keeps fun _ _ e => Heap.get?_push_of_some _ e) (N.grown fun _ _ e => Heap.get?_push_of_some _ e) (Nat.ne_of_lt F.ns.lt) (next_is_new F) (fun p hp => Nat.ne_of_lt (Heap.lt_size (N p hp).1)) trivial (R _ ⟨_, rfl⟩) ?_
  · rw [List.mem_singleton.mp hb]
    show s₁.heap.objs.size < (s₁.heap.push _).objs.size
    rw [Heap.size_push]; exact Nat.lt_succ_self _
  · intro D C h tk m' ys news' F' N' o1 hn hC₀ hD₀ hCL hDL hCD offC fin
    refine ⟨m', hn, fun h'' hs'' => fin D h'' tk (F'.change hs'' hCL hC₀) (fun p hp => ?_) o1⟩
    refine ⟨hs''.extBut _ _ ?_ (N' p hp).1, (N' p hp).2⟩
    rcases List.mem_cons.mp hp with rfl | hp
    · exact Ne.symm hCD
    · exact offC p hp
/-- what a turn gives: an octet, and a ledger in the invariant -/
def PenEl (PI : List (Addr × Obj) → Prop) (y : Value) (nw : List (Addr × Obj)) : Prop := (∃ v t, y = .int v t ∧ 0 ≤ v ∧ v < 256) ∧ PI nw
theorem src_pen {elt : Expr} {x : PySem.Str} {scope : Scope} {cl : List (PySem.Str × Addr)} {Fin : Shared → List Value → List (Addr × Obj) → Prop} {s₁ : Shared} {r : Addr} {a b : Int} {t u v : Tok} {n : Nat} {news : List (Addr × Obj)} (PI : List (Addr × Obj) → Prop)
    (hh : A.handled = none) (F : Fr h₀ L s₁.heap m) (N : News h₀ L s₁.heap news) (hpi : PI news) (hr : IsRange s₁.heap r a b 1 t u v) (hsm : Builtin.Range.small a b 1 = true) (hn : Builtin.Range.rangeSize a b 1 = ((n : Nat) : Int)) (hz : n ≤ sizeLine)
    (turn : ∀ z k t I oI C oC D m₂ ys h tk nw (E' : Value → Shared → Prop), PI nw → LCg.NsObj oC m₂ → m₂ x = some (.int k t) → Fr h₀ L h m → News h₀ L h ((I, oI) :: (C, oC) :: (D, LCg.lst ys) :: nw) → LCg.Off3 I C D nw → ((@Ne Nat I C) ∧ (@Ne Nat I D) ∧ (@Ne Nat C D)) → KPfMark →
      wpAny (model prog w) A (eval elt (compEnvC scope cl C env)) (LCg.CompEnd h₀ L m { ({ s₁ with heap := z } : Shared) with heap := h, toks := tk } I oI C oC D (LCg.lst ys) (fun _ => True) (PenEl PI)) E' { ({ s₁ with heap := z } : Shared) with heap := h, toks := tk })
    (fin : ∀ z ys ns nw, IntsAre ys ns → (∀ k ∈ ns, 0 ≤ k ∧ k < 256) → ns.length = n → PI nw → Fin { s₁ with heap := z } ys nw) :
    SrcR1 prog w A h₀ L m env elt x scope cl Fin (.ref r) s₁ := by
  refine ⟨r, a, b, t, u, v, n, news, rfl, hh, F, N, hr, hsm, hn, hz, fun s₂ ⟨z, e⟩ => ?_⟩
  subst e
  have key : ∀ (j i : Nat) (ys : List Value) (ns : List Int) (nw : List (Addr × Obj)), i + j = n → IntsAre ys ns → (∀ k ∈ ns, 0 ≤ k ∧ k < 256) → ns.length = i → PI nw →
      LCg.CompRest prog w A h₀ L m env elt x scope cl { s₁ with heap := z } (fun _ => True) (fun i v => i < n ∧ ∃ t, v = .int (a + (i : Int) * 1) t) (Fin { s₁ with heap := z }) j i ys nw := by
    intro j
    induction j with
    | zero =>
      intro i ys ns nw hi hy hin hl hp
      exact LCg.CompRest.zero (fin z ys ns nw hy hin (by omega) hp)
    | succ j ih =>
      intro i ys ns nw hi hy hin hl hp
      refine LCg.CompRest.succ ?_
      intro v I oI C oC D m₂ h tk E' hv hC hx F N off ne
      obtain ⟨_, t', e⟩ := hv
      rw [e] at hx
      refine wpAny_mono (turn z _ t' I oI C oC D m₂ ys h tk nw E' hp hC hx F N off ne True.intro) (fun y s₂ hq => ?_) fun _ _ e => e
      obtain ⟨h', tk', nw', e, F', N', off', hS, ⟨v', t2, hy', v0, v1⟩, hp'⟩ := hq
      refine ⟨h', tk', nw', e, F', N', off', hS, ?_⟩
      rw [hy']
      refine ih (i + 1) _ (ns ++ [v']) _ (by omega) (IntsAre.append hy (.cons v' t2 .nil)) ?_ (by simp; omega) hp'
      intro k hk
      rcases List.mem_append.mp hk with hk | hk
      · exact hin k hk
      · cases List.mem_singleton.mp hk; exact ⟨v0, v1⟩
  exact key n 0 [] [] news (by omega) .nil (fun _ h => nomatch h) rfl hpi
end
end Mine
end

section
namespace Mine
def hexC (n : Int) : Int := if n < 10 then 48 + n else 55 + n
def hexB (ks : List Int) : List Int := ks.flatMap fun c => [hexC (c / 16), hexC (c % 16)]
end Mine
end

section
set_option maxRecDepth 100000
namespace Mine
/-- the hex figures' worths, two an octet -/
def nib (ks : List Int) : List Int := ks.flatMap fun c => [c / 16, c % 16]
theorem nib_len : ∀ ks : List Int, (nib ks).length = 2 * ks.length
  | [] => rfl
  | c :: r => by
    have := nib_len r
    simp only [nib, List.flatMap_cons, List.length_append, List.length_cons, List.length_nil] at *
    omega
theorem hexB_nib : ∀ ks : List Int, hexB ks = (nib ks).map hexC
  | [] => rfl
  | c :: r => by
    have := hexB_nib r
    simp only [nib, hexB, List.flatMap_cons, List.map_append, List.map_cons, List.map_nil] at *
    rw [this]
theorem nib_in : ∀ {ks : List Int}, (∀ k ∈ ks, 0 ≤ k ∧ k < 256) → ∀ n ∈ nib ks, 0 ≤ n ∧ n < 16 := by
  intro ks h n hn
  obtain ⟨c, hc, hn⟩ := List.mem_flatMap.mp hn
  have := h c hc
  rcases List.mem_cons.mp hn with rfl | hn
  · omega
  · cases List.mem_singleton.mp hn
    omega
def HexAt (ks ns : List Int) (pl : Int) : Prop := ns = (nib ks).take ns.length ∧ pl = 2 + ns.length ∧ ns.length ≤ 2 * ks.length
theorem hex_start (ks : List Int) : HexAt ks [] 2 := ⟨rfl, rfl, Nat.zero_le _⟩
theorem hex_cases {ks ns E : List Int} {pl : Int} (hE : 32 :: 60 :: (hexB ks ++ [62]) = E) (hin : ∀ k ∈ ks, 0 ≤ k ∧ k < 256) (g : HexAt ks ns pl) :
    2 ≤ pl ∧ pl < E.length ∧ E.length = 2 * ks.length + 3 ∧ pl = 2 + ns.length ∧ ns.length ≤ 2 * ks.length ∧
    ((48 ≤ E.getD pl.toNat 0 ∧ E.getD pl.toNat 0 ≤ 57 ∧ HexAt ks (ns ++ [E.getD pl.toNat 0 - 48]) (pl + 1)) ∨
     (65 ≤ E.getD pl.toNat 0 ∧ E.getD pl.toNat 0 ≤ 70 ∧ HexAt ks (ns ++ [E.getD pl.toNat 0 - 55]) (pl + 1)) ∨
     (E.getD pl.toNat 0 = 62 ∧ ns = nib ks ∧ ns.length = 2 * ks.length)) := by
  obtain ⟨g1, g2, g3⟩ := g
  have hl := nib_len ks
  have hEl : E.length = 2 * ks.length + 3 := by
    rw [← hE, hexB_nib]
    simp [hl]
  refine ⟨by omega, by omega, hEl, g2, g3, ?_⟩
  have hp : pl.toNat = ns.length + 1 + 1 := by omega
  have hg : E.getD pl.toNat 0 = ((nib ks).map hexC ++ [62]).getD ns.length 0 := by
    rw [hp, ← hE, hexB_nib]
    simp only [List.getD_cons_succ]
  by_cases hlt : ns.length < (nib ks).length
  · have e1 : E.getD pl.toNat 0 = hexC ((nib ks)[ns.length]) := by
      rw [hg, List.getD_eq_getElem?_getD, List.getElem?_append_left (by simpa using hlt)]
      simp [hlt]
    have e2 := nib_in hin _ (List.getElem_mem hlt)
    have e3 : ns ++ [(nib ks)[ns.length]] = (nib ks).take (ns.length + 1) := by
      rw [List.take_succ_eq_append_getElem hlt, ← g1]
    have e4 : HexAt ks (ns ++ [(nib ks)[ns.length]]) (pl + 1) := by
      refine ⟨?_, ?_, ?_⟩
      · rw [List.length_append, List.length_singleton]; exact e3
      · simp only [List.length_append, List.length_singleton]; omega
      · simp only [List.length_append, List.length_singleton]; omega
    unfold hexC at e1
    by_cases h10 : (nib ks)[ns.length] < 10
    · rw [if_pos h10] at e1
      refine .inl ⟨by omega, by omega, ?_⟩
      rwa [show E.getD pl.toNat 0 - 48 = (nib ks)[ns.length] by omega]
    · rw [if_neg h10] at e1
      refine .inr (.inl ⟨by omega, by omega, ?_⟩)
      rwa [show E.getD pl.toNat 0 - 55 = (nib ks)[ns.length] by omega]
  · have e0 : ns.length = (nib ks).length := by omega
    refine .inr (.inr ⟨?_, ?_, by omega⟩)
    · rw [hg, List.getD_eq_getElem?_getD, e0]
      simp
    · rw [g1, e0, List.take_length]
theorem nib_get : ∀ (ks : List Int) (i : Nat), (nib ks).getD (2 * i) 0 = ks.getD i 0 / 16 ∧ (nib ks).getD (2 * i + 1) 0 = ks.getD i 0 % 16
  | [], i => by simp [nib]
  | c :: r, 0 => by simp [nib]
  | c :: r, i + 1 => by
    have := nib_get r i
    have e : nib (c :: r) = c / 16 :: c % 16 :: nib r := rfl
    rw [e, show 2 * (i + 1) = 2 * i + 1 + 1 by omega]
    simpa only [List.getD_cons_succ] using this
theorem evens_in {a k : Int} {n : Nat} (h : k ∈ evens a n) : ∃ i : Nat, i < n ∧ k = a + (i : Int) * 2 := by
  obtain ⟨i, hi, e⟩ := List.mem_map.mp h
  exact ⟨i, List.mem_range.mp hi, e.symm⟩
theorem halves_back (ks : List Int) : (evens 0 ks.length).map (fun k => 16 * (nib ks).getD k.toNat 0 + (nib ks).getD (k + 1).toNat 0) = ks := by
  refine List.ext_getElem (by simp [evens]) fun i h1 h2 => ?_
  simp only [evens, List.getElem_map, List.getElem_range]
  have e := nib_get ks i
  rw [show ((0 : Int) + (i : Int) * 2).toNat = 2 * i by omega, show ((0 : Int) + (i : Int) * 2 + 1).toNat = 2 * i + 1 by omega, e.1, e.2]
  have e3 : ks.getD i 0 = ks[i] := by simp [h2]
  rw [e3]
  omega
open PySem in
theorem size2 {n l : Nat} (h : l = 2 * n) : Builtin.Range.rangeSize 0 (l : Int) 2 = (n : Int) := by
  unfold Builtin.Range.rangeSize
  simp only [show (2 : Int) > 0 by decide, if_true]
  split <;> omega
open PySem in
theorem small2 {n l : Nat} (h : l = 2 * n) (hn : n ≤ 1000) : Builtin.Range.small 0 (l : Int) 2 = true := by
  unfold Builtin.Range.small
  rw [size2 h]
  unfold Builtin.Range.rangeFitsLong
  have a1 : (2 : Int) ^ 63 = 9223372036854775808 := by decide
  have a2 : decide (-(2 : Int) ^ 63 ≤ (l : Int)) = true := decide_eq_true (by omega)
  have a3 : decide ((l : Int) < (2 : Int) ^ 63) = true := decide_eq_true (by omega)
  have a4 : decide (-(2 : Int) ^ 63 ≤ (n : Int)) = true := decide_eq_true (by omega)
  have a5 : decide ((n : Int) < (2 : Int) ^ 63) = true := decide_eq_true (by omega)
  have a6 : decide (-(2 : Int) ^ 63 ≤ (l : Int) + (2 - 1)) = true := decide_eq_true (by omega)
  have a7 : decide ((l : Int) + (2 - 1) < (2 : Int) ^ 63) = true := decide_eq_true (by omega)
  rw [if_pos (by decide), a2, a3, a4, a5, a6, a7, Bool.and_self, Bool.or_true, Bool.and_true, Bool.and_true, Bool.and_true]
  decide
theorem even2 {n l : Nat} (h : l = 2 * n) : (l : Int).fmod 2 = 0 := by
  rw [Int.fmod_eq_emod_of_nonneg _ (by decide)]
  omega
end Mine
end

section
open PySem
set_option maxRecDepth 100000
namespace Mine
def hexS (k : Int) : PySem.Str := Txt.item (Str.ofString "0123456789ABCDEF") (k.fdiv 16) ++ Txt.item (Str.ofString "0123456789ABCDEF") (k.fmod 16)
theorem sign_at : ∀ k : Fin 16, (((Txt.item (Str.ofString "0123456789ABCDEF") ((k.val : Nat) : Int)).cps.toList).map fun c : Nat => (c : Int)) = [hexC ((k.val : Nat) : Int)] := by decide +kernel
theorem sign_at' {n : Int} (h0 : 0 ≤ n) (h1 : n < 16) : (((Txt.item (Str.ofString "0123456789ABCDEF") n).cps.toList).map fun c : Nat => (c : Int)) = [hexC n] := by
  have h := sign_at ⟨n.toNat, by omega⟩
  simp only [] at h
  rwa [Int.toNat_of_nonneg h0] at h
theorem hexS_is {k : Int} (h0 : 0 ≤ k) (h1 : k < 256) : ((hexS k).cps.toList.map fun c : Nat => (c : Int)) = [hexC (k / 16), hexC (k % 16)] := by
  have e1 : k.fdiv 16 = k / 16 := Int.fdiv_eq_ediv_of_nonneg _ (by decide)
  have e2 : k.fmod 16 = k % 16 := Int.fmod_eq_emod_of_nonneg _ (by decide)
  unfold hexS
  rw [e1, e2, PySem.Str.cps_append, Array.toList_append, List.map_append, sign_at' (by omega) (by omega), sign_at' (by omega) (by omega)]
  rfl
theorem join_list : ∀ l : List PySem.Str, (Str.join (Str.ofString "") l).cps.toList = l.flatMap fun x => x.cps.toList
  | [] => rfl
  | [x] => by simp [Str.join]
  | x :: y :: r => by
    have h := join_list (y :: r)
    have z : (Str.ofString "").cps.toList = [] := by decide +kernel
    show ((x ++ Str.ofString "") ++ Str.join (Str.ofString "") (y :: r)).cps.toList = _
    rw [PySem.Str.cps_append, Array.toList_append, PySem.Str.cps_append, Array.toList_append, h, z]
    simp
theorem text_is {ks : List Int} (h : ∀ k ∈ ks, 0 ≤ k ∧ k < 256) : ((Txt.join (Str.ofString "") (ks.map hexS)).cps.toList.map fun c : Nat => (c : Int)) = hexB ks := by
  have e : Txt.join (Str.ofString "") (ks.map hexS) = Str.join (Str.ofString "") (ks.map hexS) := StrLaws.glued_eq_join _ _
  rw [e, join_list, List.map_flatMap]
  induction ks with
  | nil => rfl
  | cons c r ih =>
    have h0 := h c (.head _)
    rw [List.map_cons, List.flatMap_cons, hexS_is h0.1 h0.2, ih (fun k hk => h k (.tail _ hk)) (StrLaws.glued_eq_join _ _)]
    rfl
theorem hexS_len (k : Int) : (hexS k).length = 2 := rfl
end Mine
end

section
open PySem PySem.W PySem.Calls PyProof.Rows PyProof.V PySem.Spec
set_option Elab.async false
set_option maxRecDepth 100000
namespace Mine
local macro_rules | `(tactic| walk_at "pyIter ref") => `(tactic| k_extra "MINE ref")
local macro_rules | `(tactic| walk_at "pyIter bytes") => `(tactic| k_extra "MINE bytes")
local macro_rules | `(tactic| walk_at "call ref") => `(tactic| k_extra "MINE call")
local macro_rules | `(tactic| walk_at "call type:bytes") => `(tactic| k_extra "MINE tobytes")
local macro_rules | `(tactic| walk_at "call type:enumerate") => `(tactic| k_extra "MINE enum")
local macro_rules | `(tactic| walk_at "exec While") => `(tactic| k_extra "MINE while")
local macro_rules | `(tactic| walk_at "exec While BoolOp") => `(tactic| k_extra "MINE while")
local macro_rules | `(tactic| walk_at "exec While BoolOp cons nil") => `(tactic| k_extra "MINE while")
local macro_rules | `(tactic| walk_at "exec While Compare") => `(tactic| k_extra "MINE while")
local macro_rules | `(tactic| walk_at "exec While Compare cons nil") => `(tactic| k_extra "MINE while")
local macro_rules | `(tactic| walk_at "InvEndN") => `(tactic| k_extra "MINE end")
local macro_rules | `(tactic| walk_at "KswEnd") => `(tactic| k_extra "MINE end")
local macro_rules | `(tactic| walk_at "callWith") => `(tactic| k_extra "MINE w:callWith")
local macro_rules | `(tactic| walk_at "ite") => `(tactic| k_extra "MINE ite")
local macro_rules | `(tactic| walk_at "call builtin:sorted") => `(tactic| k_extra "MINE sorted")
local macro_rules | `(tactic| walk_at "eval ListComp") => `(tactic| k_extra "MINE comp")
local macro_rules | `(tactic| walk_at "SrcB") => `(tactic| k_extra "MINE src")
local macro_rules | `(tactic| walk_at "SrcBT") => `(tactic| k_extra "MINE src")
local macro_rules | `(tactic| walk_at "compareOp In int ref") => `(tactic| k_extra "MINE in")
local macro_rules | `(tactic| walk_at "SrcS") => `(tactic| k_extra "MINE src")
local macro_rules | `(tactic| walk_at "call builtin:list.pop") => `(tactic| k_extra "MINE pop")
local macro_rules | `(tactic| walk_at "binaryOp FloorDiv int int") => `(tactic| k_extra "MINE div")
local macro_rules | `(tactic| walk_at "SrcR1") => `(tactic| k_extra "MINE src")
local macro_rules | `(tactic| walk_at "SrcR2") => `(tactic| k_extra "MINE src")
local macro_rules | `(tactic| walk_at "eval IfExp") => `(tactic| k_extra "MINE ifexp")
local macro_rules | `(tactic| walk_at "WayEnd") => `(tactic| k_extra "MINE way")
local macro_rules | `(tactic| walk_at "execs cons") => `(tactic| k_extra "MINE execs")
local macro_rules | `(tactic| walk_at "KPfDone") => `(tactic| k_extra "MINE done")
local macro_rules | `(tactic| walk_at "CompEnd") => `(tactic| k_extra "MINE cend")
local macro_rules | `(tactic| walk_at "compareOp NotEq ref ref") => `(tactic| k_extra "MINE w:compareOp NotEq ref ref")
local macro_rules | `(tactic| walk_at "compareOp NotEq bytes bytes") => `(tactic| k_extra "MINE w:compareOp NotEq bytes bytes")
local macro_rules | `(tactic| walk_at "compareOp Eq bytes bytes") => `(tactic| k_extra "MINE w:compareOp Eq bytes bytes")
local macro_rules | `(tactic| units_room) => `(tactic| ((simp only [units_in1, units_deeper, Around.mark_units, ktrTop, cLine_is] at *); omega))
local macro_rules | `(tactic| k_room) => `(tactic| ((try simp only [depth_under_make, depth_under_kw, depth_in1, depth_deeper, depth_caller]); (try dsimp only [ktrTop]); unfold recursionLimit; omega))
local macro_rules | `(tactic| k_units) => `(tactic| ((simp only [units_in1, units_deeper, Around.mark_units, ktrTop, cLine_is] at *); omega))
local macro_rules | `(tactic| walk_at "setItem ref int") => `(tactic| (k_here; (with_reducible show wpAny _ _ (setItem (Value.ref _) (Value.int _ _) (Value.bool true)) _ _ _); k_dflt (refine' put_true ?F ?N ?U ?d ?f ?z ?n ?_; (case F => k_asm); (case N => k_asm); (case U => k_updF); (case d => k_asm); (case f => k_asm); (case z => omega); (case n => with_reducible assumption)); intro h' o' kvs' F' N' hd' hf'; (try dsimp only at N')))
local macro_rules | `(tactic| walk_at "call builtin:list.extend") => `(tactic| (k_here; (with_reducible show wpAny _ _ (call (Value.builtin _) [Value.ref _, Value.ref _]) _ _ _); k_dflt (refine' ext_list ?F ?N ?b ?z ?y ?ne ?U ?_; (case F => k_asm); (case N => k_asm); (case b => k_mem); (case U => k_upd); (case z => omega); (case y => exact Nat.le_of_ble_eq_true rfl); (case ne => exact Nat.succ_ne_zero _); k_whole); intro h' F' N'; (try dsimp only at N')))
local macro_rules | `(tactic| walk_at "call builtin:list.extend") => `(tactic| (k_here; (with_reducible show wpAny _ _ (call (Value.builtin _) [Value.ref _, Value.bytes _ _]) _ _ _); k_dflt (refine' ext_bytes ?hh ?F ?N ?k ?z ?U ?_; (case hh => exact rfl); (case F => k_asm); (case N => k_asm); (case U => k_updF); (case k => exact cr_ints); (case z => (simp only [List.length_cons, List.length_nil]; omega)); k_whole); intro h' tk' ws' c' F' N' hw'; (try dsimp only at N')))
def lonePost (w : World) (ks : List Int) (r : Value) (news : Led) : Prop :=
  ∃ d o kvs, r = .ref d ∧ news = [(d, o)] ∧ (d == sysModules) = false ∧ o.IsDictOf (intKind PySem.Challenge.rw_og0184_01.row.prog w) kvs ∧ FlatPairs PyData.int kvs (tts ((lbAt ks ks.length).2 ++ (lbAt ks ks.length).1))
set_option maxHeartbeats 8000000 in
theorem lone_t {w : World} {b : Array UInt8} {t : Tok} {ks : List Int} (hb : KBw.bInts b = ks) (hl : ks.length ≤ 100) :
   Contract w 3 35 [.bytes b t] [] (lonePost w ks) := by
  k_with_none
  k_with "MINE w:callWith" => ((with_reducible show wpAny _ _ (callWith _ (Value.builtin _) (_ :: _) (backTo _ (starEach (_ :: _) _)) _) _ _ _); k_dflt (refine callWith_method1 ?_))
  k_with "MINE w:compareOp NotEq ref ref" => (k_here; (with_reducible show wpAny _ _ (compareOp CmpOp.NotEq (Value.ref _) (Value.ref _)) _ _ _); k_dflt (first
  | (refine' ne_tup2 ?w8N ?w8a ?w8b ?w8u ?w8e1 ?w8e2 ?_; (case w8N => k_asm); (case w8a => k_mem); (case w8b => k_mem); (case w8u => units_room); (case w8e1 => first | exact at_bytes (by assumption) (by assumption) | exact at_int (by first | rfl | omega) | exact at_str (by rfl)); (case w8e2 => first | exact at_bytes (by assumption) (by assumption) | exact at_int (by first | rfl | omega) | exact at_str (by rfl)); k_whole)
  | (refine' ne_tup3 ?w8N ?w8a ?w8b ?w8u ?w8e1 ?w8e2 ?w8e3 ?_; (case w8N => k_asm); (case w8a => k_mem); (case w8b => k_mem); (case w8u => units_room); (case w8e1 => first | exact at_bytes (by assumption) (by assumption) | exact at_int (by first | rfl | omega) | exact at_str (by rfl)); (case w8e2 => first | exact at_bytes (by assumption) (by assumption) | exact at_int (by first | rfl | omega) | exact at_str (by rfl)); (case w8e3 => first | exact at_bytes (by assumption) (by assumption) | exact at_int (by first | rfl | omega) | exact at_str (by rfl)); k_whole)))
  k_with "MINE w:compareOp NotEq bytes bytes" => (k_here; (with_reducible show wpAny _ _ (compareOp CmpOp.NotEq (Value.bytes _ _) (Value.bytes _ _)) _ _ _); k_dflt (refine' ne_bytes_same ?w8b ?w8c ?w8e ?_; (case w8b => first | assumption | rfl | exact KBw.ints_app (by assumption) (by first | assumption | rfl) | exact KBw.ints_app (by rfl) (by assumption)); (case w8c => first | assumption | rfl | exact KBw.ints_app (by assumption) (by first | assumption | rfl) | exact KBw.ints_app (by rfl) (by assumption)); (case w8e => first | rfl | exact lit_first _ | k_extra "MINE same"); k_whole))
  k_with "MINE w:compareOp Eq bytes bytes" => (k_here; (with_reducible show wpAny _ _ (compareOp CmpOp.Eq (Value.bytes _ _) (Value.bytes _ _)) _ _ _); k_dflt (refine' eq_bytes_same ?w8b ?w8c ?w8e ?_; (case w8b => first | assumption | rfl | exact KBw.ints_app (by assumption) (by first | assumption | rfl) | exact KBw.ints_app (by rfl) (by assumption)); (case w8c => first | assumption | rfl | exact KBw.ints_app (by assumption) (by first | assumption | rfl) | exact KBw.ints_app (by rfl) (by assumption)); (case w8e => first | rfl | exact lit_first _ | k_extra "MINE same"); k_whole))
  k_with "MINE ref" => refine hold_of ?_
  (have fillNow : PySem.Challenge.rw_og0184_01.row.prog = PySem.Challenge.rw_og0184_01.row.prog ∧ hd.heap_39 = hd.heap_39 := (by (k_fill; exact ⟨rfl, rfl⟩)); clear fillNow)
  refine' contract_of [(Str.ofString "octets", .bytes b t)] ?ho ?hcd ?hb ?hl ?h1 ?h2 ?h3 ?h4 ?_
  ((case ho => k_is); (case hcd => k_is); (case hb => intro s hX; exact BindsTo.of_eq rfl); (case hl => exact locs rfl); (case h1 => exact rfl); (case h2 => exact rfl); (case h3 => exact rfl); (case h4 => decide); k_whole; unfold Body)
  intro mean mg mb dp un gd outer A₀ base h₀ L s Q B X T F N hd hu hret hnone; k_fill; have kMark := kstMark
  k_steps
  rename_i l0 h1 l1 h2 d0 h3 o0 lo0 hs0 fs0 hi0 fi0 l2 h4 F4 N4 h5 tk5 t1 u1 v1 R5 F5 N5 keep5
  refine Hold.go (kst_range (σ := List Value × List Int × Nat × Obj × List (Int × Value) × List Int) (fun (vs, op, n, o, kvs, kk) => [(d0, o), (l0, listOf vs.toArray n)])
    (fun _ => []) (fun (vs, op, n, o, kvs, kk) => IntsAre vs op ∧ o.IsDictOf (intKind PySem.Challenge.rw_og0184_01.row.prog w) kvs ∧ FlatPairs PyData.int kvs (tts kk)) []
    (fun pre (vs, op, n, o, kvs, kk) => (op, kk) = lbAt ks pre.length) ([], [], 0, o0, [], []) rfl R5 (small_one (by omega) (by omega) (by omega) (by omega)) (n := ks.length) (by rw [rangeSize_nat]; simp) F5 N5 ⟨.nil, hi0, .nil⟩ no_names rfl ?_ ?_)
  · rintro ⟨vs, op, n, o, kvs, kk⟩ pre k t u h tk own hk hlt hoff ⟨f1, f2, f3⟩ hP F6 N6
    clear F5 N5 R5 keep5 F4 N4
    dsimp only [kstB] at F6
    dsimp only [List.map_cons, List.map_nil] at N6 hoff hP
    simp only [List.nil_append, List.cons_append] at N6
    rw [Int.zero_add] at hk
    subst hk
    have hfr := lb_fresh hP
    have hln := lb_len hP
    have hz2 : op.length ≤ 100 := by omega
    have hz : vs.length ≤ 100 := by rw [f1.length]; exact hz2
    have hz3 : kk.length ≤ 100 := by omega
    k_steps
    · rename_i hc h7 F7 N7
      simp only [List.push_toArray] at N7
      rw [Int.toNat_natCast] at hc
      refine kst_end (vs ++ [.int pre.length t], op ++ [(pre.length : Int)], n + 1, o, kvs, kk) (by assumption) N7 ?_ ?_ rfl ?_ no_names ?_ ?_
      · kst_in
      · intro p hp; kst_mem
      · exact ⟨f1.append (.cons _ _ .nil), f2, f3⟩
      · kst_same
      · dsimp only; rw [List.length_append]; exact lb_open hP hc
    · rename_i hc ho h7 t7 F7 N7 I7
      rw [Int.toNat_natCast] at hc
      refine kst_end (vs.dropLast, op.dropLast, n + 1, o, kvs, kk) (by assumption) N7 ?_ ?_ rfl ?_ no_names ?_ ?_
      · kst_in
      · intro p hp; kst_mem
      · exact ⟨I7, f2, f3⟩
      · kst_same
      · dsimp only; rw [List.length_append]; exact lb_close hP hc ho
    · rename_i hc ho h7 o7 kv7 F7 N7 d7 f7
      rw [Int.toNat_natCast] at hc
      refine kst_end (vs, op, n, o7, kv7, kk ++ [(pre.length : Int)]) (by assumption) N7 ?_ ?_ rfl ?_ no_names ?_ ?_
      · kst_in
      · intro p hp; kst_mem
      · exact ⟨f1, d7, f7⟩
      · kst_same
      · dsimp only; rw [List.length_append]; exact lb_lone hP hc ho
    · rename_i hc _ _ _ _ hc'
      rw [Int.toNat_natCast] at hc hc'
      refine kst_end (vs, op, n, o, kvs, kk) (by assumption) N6 ?_ ?_ rfl ?_ no_names ?_ ?_
      · kst_in
      · intro p hp; kst_mem
      · exact ⟨f1, f2, f3⟩
      · kst_same
      · dsimp only; rw [List.length_append]; exact lb_other hP hc hc'
  · rintro ⟨vs, op, n, o, kvs, kk⟩ u h tk ⟨f1, f2, f3⟩ hP F6 N6
    clear F5 N5 R5 keep5 F4 N4
    dsimp only [kstB] at F6
    dsimp only at N6 hP
    k_steps
    rename Fr _ _ _ _ => F7
    rw [rangeKs_length] at hP
    obtain ⟨e1, e2⟩ := Prod.mk.inj hP
    have hz3 : kk.length ≤ 100 := by have := lb_len hP; omega
    have hz2 : op.length ≤ 100 := by have := lb_len hP; omega
    have hnd := (lb_facts ks ks.length).1
    rw [← e1, ← e2] at hnd
    refine Hold.go (kst_listL (σ := Obj × List (Int × Value) × List Int) (fun (o, kvs, kk) => [(d0, o), (l0, listOf vs.toArray n)])
      (fun _ => []) (fun (o, kvs, kk) => o.IsDictOf (intKind PySem.Challenge.rw_og0184_01.row.prog w) kvs ∧ FlatPairs PyData.int kvs (tts kk)) []
      (fun pre (o, kvs, kk') => kk' = kk ++ pre) (o, kvs, kk) rfl (fun c => .tail _ (.head _)) f1 F7 N6 ⟨f2, f3⟩ no_names (by simp) ?_ ?_)
    · rintro ⟨o, kvs, kk'⟩ pre post k t u h tk own hk hmem hoff ⟨f2, f3⟩ hP' F8 N8
      clear F7 N6
      dsimp only [kstB] at F8
      dsimp only [List.map_cons, List.map_nil] at N8 hoff hP'
      simp only [List.nil_append, List.cons_append] at N8
      have hfr : k ∉ kk' := by
        rw [hP']; rw [hk] at hnd
        simp only [List.nodup_append, List.mem_append, List.mem_cons, List.nodup_cons] at hnd ⊢
        grind
      have hz4 : kk'.length ≤ 200 := by
        rw [hP']; rw [hk] at hz2; simp only [List.length_append, List.length_cons] at hz2 ⊢; omega
      k_steps
    · rintro ⟨o, kvs, kk'⟩ u h tk ⟨f2, f3⟩ hP' F8 N8
      dsimp only [kstB] at F8
      dsimp only at N8 hP'
      k_steps
      dsimp only
      refine hret _ _ _ _ _ F8 (fun p hp => N8 p (List.mem_append_left [(l0, listOf vs.toArray n)] hp)) ⟨d0, o, kvs, rfl, rfl, lo0, f2, ?_⟩
      rw [← e1, ← e2, ← hP']; exact f3

theorem hex_item : ∀ k : Fin 16, ((([48, 49, 50, 51, 52, 53, 54, 55, 56, 57, 65, 66, 67, 68, 69, 70] : List UInt8).getD k.val 0).toNat : Int) = hexC k.val := by decide
theorem hex_item' {n m : Int} (e : n = m) (h0 : 0 ≤ m) (h1 : m < 16) : ((([48, 49, 50, 51, 52, 53, 54, 55, 56, 57, 65, 66, 67, 68, 69, 70] : List UInt8).getD n.toNat 0).toNat : Int) = hexC m := by
  subst e
  have h2 := hex_item ⟨n.toNat, by omega⟩
  have h3 : ((n.toNat : Nat) : Int) = n := by omega
  simpa only [h3] using h2
set_option maxHeartbeats 8000000 in
theorem hex_pair_t {w : World} {c : Int} {t : Tok} (h0 : 0 ≤ c) (h1 : c < 256) :
   Contract w 1 28 [.int c t] [] (fun r n => ∃ a t1 t2, r = .ref a ∧ n = [(a, listOf #[.int (hexC (c / 16)) t1, .int (hexC (c % 16)) t2] 0)]) := by
  k_with_none
  k_with "MINE w:callWith" => ((with_reducible show wpAny _ _ (callWith _ (Value.builtin _) (_ :: _) (backTo _ (starEach (_ :: _) _)) _) _ _ _); k_dflt (refine callWith_method1 ?_))
  k_with "MINE w:compareOp NotEq ref ref" => (k_here; (with_reducible show wpAny _ _ (compareOp CmpOp.NotEq (Value.ref _) (Value.ref _)) _ _ _); k_dflt (first
  | (refine' ne_tup2 ?w8N ?w8a ?w8b ?w8u ?w8e1 ?w8e2 ?_; (case w8N => k_asm); (case w8a => k_mem); (case w8b => k_mem); (case w8u => units_room); (case w8e1 => first | exact at_bytes (by assumption) (by assumption) | exact at_int (by first | rfl | omega) | exact at_str (by rfl)); (case w8e2 => first | exact at_bytes (by assumption) (by assumption) | exact at_int (by first | rfl | omega) | exact at_str (by rfl)); k_whole)
  | (refine' ne_tup3 ?w8N ?w8a ?w8b ?w8u ?w8e1 ?w8e2 ?w8e3 ?_; (case w8N => k_asm); (case w8a => k_mem); (case w8b => k_mem); (case w8u => units_room); (case w8e1 => first | exact at_bytes (by assumption) (by assumption) | exact at_int (by first | rfl | omega) | exact at_str (by rfl)); (case w8e2 => first | exact at_bytes (by assumption) (by assumption) | exact at_int (by first | rfl | omega) | exact at_str (by rfl)); (case w8e3 => first | exact at_bytes (by assumption) (by assumption) | exact at_int (by first | rfl | omega) | exact at_str (by rfl)); k_whole)))
  k_with "MINE w:compareOp NotEq bytes bytes" => (k_here; (with_reducible show wpAny _ _ (compareOp CmpOp.NotEq (Value.bytes _ _) (Value.bytes _ _)) _ _ _); k_dflt (refine' ne_bytes_same ?w8b ?w8c ?w8e ?_; (case w8b => first | assumption | rfl | exact KBw.ints_app (by assumption) (by first | assumption | rfl) | exact KBw.ints_app (by rfl) (by assumption)); (case w8c => first | assumption | rfl | exact KBw.ints_app (by assumption) (by first | assumption | rfl) | exact KBw.ints_app (by rfl) (by assumption)); (case w8e => first | rfl | exact lit_first _ | k_extra "MINE same"); k_whole))
  k_with "MINE w:compareOp Eq bytes bytes" => (k_here; (with_reducible show wpAny _ _ (compareOp CmpOp.Eq (Value.bytes _ _) (Value.bytes _ _)) _ _ _); k_dflt (refine' eq_bytes_same ?w8b ?w8c ?w8e ?_; (case w8b => first | assumption | rfl | exact KBw.ints_app (by assumption) (by first | assumption | rfl) | exact KBw.ints_app (by rfl) (by assumption)); (case w8c => first | assumption | rfl | exact KBw.ints_app (by assumption) (by first | assumption | rfl) | exact KBw.ints_app (by rfl) (by assumption)); (case w8e => first | rfl | exact lit_first _ | k_extra "MINE same"); k_whole))
  (have fillNow : PySem.Challenge.rw_og0184_01.row.prog = PySem.Challenge.rw_og0184_01.row.prog ∧ hd.heap_39 = hd.heap_39 := (by (k_fill; exact ⟨rfl, rfl⟩)); clear fillNow)
  refine' contract_of [(Str.ofString "code", .int c t)] ?ho ?hcd ?hb ?hl ?h1 ?h2 ?h3 ?h4 ?_
  ((case ho => k_is); (case hcd => k_is); (case hb => intro s hX; exact BindsTo.of_eq rfl); (case hl => exact locs rfl); (case h1 => exact rfl); (case h2 => exact rfl); (case h3 => exact rfl); (case h4 => decide); k_whole; unfold Body)
  intro mean mg mb dp un gd outer A₀ base h₀ L s Q B X T F N hd hu hret hnone; k_fill; have kMark := kstMark
  k_steps
  rename News _ _ _ _ => N1
  rw [hex_item' (m := c / 16) (Int.fdiv_eq_ediv_of_nonneg _ (by omega)) (by omega) (by omega), hex_item' (m := c % 16) (Int.fmod_eq_emod_of_nonneg _ (by omega)) (by omega) (by omega)] at N1
  exact hret _ _ _ _ _ (by assumption) N1 ⟨_, _, _, rfl, rfl⟩
theorem hexC_in {n : Int} (h0 : 0 ≤ n) (h1 : n < 16) : 0 ≤ hexC n ∧ hexC n < 256 := by
  unfold hexC; split <;> omega
theorem hex_in {b : Array UInt8} {ks : List Int} (hb : KBw.bInts b = ks) : KBa.In (60 :: hexB ks ++ [62]) := by
  intro n hn
  simp only [List.cons_append, List.mem_cons, List.mem_append, List.not_mem_nil, or_false] at hn
  rcases hn with rfl | hn | rfl
  · omega
  · obtain ⟨c, hc, hm⟩ := List.mem_flatMap.mp hn
    subst hb
    have hc' := KBw.ints_in hc
    simp only [List.mem_cons, List.not_mem_nil, or_false] at hm
    rcases hm with rfl | rfl
    · exact hexC_in (by omega) (by omega)
    · exact hexC_in (by omega) (by omega)
  · omega
def bytesPost (ls : List Int) (r : Value) (news : Led) : Prop := ∃ b t, r = .bytes b t ∧ KBw.bInts b = ls ∧ news = []
set_option maxHeartbeats 8000000 in
theorem hex_octets_t {w : World} {b : Array UInt8} {t : Tok} {ks : List Int} (hb : KBw.bInts b = ks) (hl : ks.length ≤ 100) :
   Contract w 3 49 [.bytes b t] [] (bytesPost (60 :: (hexB ks ++ [62]))) := by
  k_with_none
  k_with "MINE w:callWith" => ((with_reducible show wpAny _ _ (callWith _ (Value.builtin _) (_ :: _) (backTo _ (starEach (_ :: _) _)) _) _ _ _); k_dflt (refine callWith_method1 ?_))
  k_with "MINE w:compareOp NotEq ref ref" => (k_here; (with_reducible show wpAny _ _ (compareOp CmpOp.NotEq (Value.ref _) (Value.ref _)) _ _ _); k_dflt (first
  | (refine' ne_tup2 ?w8N ?w8a ?w8b ?w8u ?w8e1 ?w8e2 ?_; (case w8N => k_asm); (case w8a => k_mem); (case w8b => k_mem); (case w8u => units_room); (case w8e1 => first | exact at_bytes (by assumption) (by assumption) | exact at_int (by first | rfl | omega) | exact at_str (by rfl)); (case w8e2 => first | exact at_bytes (by assumption) (by assumption) | exact at_int (by first | rfl | omega) | exact at_str (by rfl)); k_whole)
  | (refine' ne_tup3 ?w8N ?w8a ?w8b ?w8u ?w8e1 ?w8e2 ?w8e3 ?_; (case w8N => k_asm); (case w8a => k_mem); (case w8b => k_mem); (case w8u => units_room); (case w8e1 => first | exact at_bytes (by assumption) (by assumption) | exact at_int (by first | rfl | omega) | exact at_str (by rfl)); (case w8e2 => first | exact at_bytes (by assumption) (by assumption) | exact at_int (by first | rfl | omega) | exact at_str (by rfl)); (case w8e3 => first | exact at_bytes (by assumption) (by assumption) | exact at_int (by first | rfl | omega) | exact at_str (by rfl)); k_whole)))
  k_with "MINE w:compareOp NotEq bytes bytes" => (k_here; (with_reducible show wpAny _ _ (compareOp CmpOp.NotEq (Value.bytes _ _) (Value.bytes _ _)) _ _ _); k_dflt (refine' ne_bytes_same ?w8b ?w8c ?w8e ?_; (case w8b => first | assumption | rfl | exact KBw.ints_app (by assumption) (by first | assumption | rfl) | exact KBw.ints_app (by rfl) (by assumption)); (case w8c => first | assumption | rfl | exact KBw.ints_app (by assumption) (by first | assumption | rfl) | exact KBw.ints_app (by rfl) (by assumption)); (case w8e => first | rfl | exact lit_first _ | k_extra "MINE same"); k_whole))
  k_with "MINE w:compareOp Eq bytes bytes" => (k_here; (with_reducible show wpAny _ _ (compareOp CmpOp.Eq (Value.bytes _ _) (Value.bytes _ _)) _ _ _); k_dflt (refine' eq_bytes_same ?w8b ?w8c ?w8e ?_; (case w8b => first | assumption | rfl | exact KBw.ints_app (by assumption) (by first | assumption | rfl) | exact KBw.ints_app (by rfl) (by assumption)); (case w8c => first | assumption | rfl | exact KBw.ints_app (by assumption) (by first | assumption | rfl) | exact KBw.ints_app (by rfl) (by assumption)); (case w8e => first | rfl | exact lit_first _ | k_extra "MINE same"); k_whole))
  k_with "MINE bytes" => refine hold_of ?_
  (have fillNow : PySem.Challenge.rw_og0184_01.row.prog = PySem.Challenge.rw_og0184_01.row.prog ∧ hd.heap_39 = hd.heap_39 := (by (k_fill; exact ⟨rfl, rfl⟩)); clear fillNow)
  refine' contract_of [(Str.ofString "octets", .bytes b t)] ?ho ?hcd ?hb ?hl ?h1 ?h2 ?h3 ?h4 ?_
  ((case ho => k_is); (case hcd => k_is); (case hb => intro s hX; exact BindsTo.of_eq rfl); (case hl => exact locs rfl); (case h1 => exact rfl); (case h2 => exact rfl); (case h3 => exact rfl); (case h4 => decide); k_whole; unfold Body)
  intro mean mg mb dp un gd outer A₀ base h₀ L s Q B X T F N hd hu hret hnone; k_fill; have kMark := kstMark
  k_steps
  rename_i l0 h1 l1 h2 F2 N2
  refine Hold.go (KStb.kst_bytes (σ := List Value × List Int × Nat) (fun (vs, ns, n) => [(l0, listOf vs.toArray n)]) (fun _ => []) (fun (vs, ns, n) => IntsAre vs ns) []
    (fun pre (vs, ns, n) => ns = 60 :: hexB pre ∧ ns.length = 1 + 2 * pre.length) ([.int 60 s.toks], [60], 0) hb rfl rfl F2 N2 (.cons _ _ .nil) no_names ⟨rfl, rfl⟩ ?_ ?_)
  · rintro ⟨vs, ns, n⟩ pre post k t u h tk own hk hlt k0 k1 hoff f1 ⟨p1, p2⟩ F6 N6
    clear F2 N2
    dsimp only [kstB] at F6
    dsimp only [List.map_cons, List.map_nil] at N6 hoff f1 p1 p2
    simp only [List.nil_append, List.cons_append] at N6
    have hz2 : ns.length ≤ 1000 := by omega
    have hz : vs.length ≤ 1000 := by rw [f1.length]; exact hz2
    k_with "MINE call" => (refine' (hex_pair_t k0 k1).use0 ?uB ?uF ?uX ?uN ?uT ?uk ?ud ?uu ?_; ((case uB => k_asm); (case uF => k_asm); (case uX => k_asm); (case uN => k_asm); (case uT => k_asm); (case uk => first | exact rfl | assumption); (case ud => omega); (case uu => omega)); rintro r h7 tk7 n7 F7 N7 off7 ⟨a7, t7, u7, rfl, rfl⟩; clear F6 N6; simp only [List.cons_append, List.nil_append] at N7; have e7 : @Ne Nat a7 l0 := off7 (a7, _) (List.Mem.head _) (l0, _) (List.Mem.head _))
    k_steps
    · rename News _ _ _ _ => N8
      refine kst_end (vs ++ [.int (hexC (k / 16)) t7, .int (hexC (k % 16)) u7], ns ++ [hexC (k / 16), hexC (k % 16)], n + 1) (by assumption) N8 ?_ ?_ rfl ?_ no_names ?_ ?_
      · kst_in
      · intro p hp; kst_mem
      · exact f1.append (.cons _ _ (.cons _ _ .nil))
      · kst_same
      · dsimp only
        refine ⟨?_, ?_⟩
        · rw [p1]; simp [hexB]
        · simp; omega
  · rintro ⟨vs, ns, n⟩ u h tk hlen f1 ⟨p1, p2⟩ F6 N6
    clear F2 N2
    dsimp only [kstB] at F6
    dsimp only at N6 f1 p1 p2
    have hz2 : ns.length ≤ 1000 := by omega
    have hz : vs.length ≤ 1000 := by rw [f1.length]; exact hz2
    have hin : KBa.In (ns ++ [62]) := by
      rw [p1]; exact hex_in hb
    k_with "MINE tobytes" => (refine' to_bytes ?F ?N rfl (List.Mem.head _) rfl ?i hin ?z ?_; (case F => k_asm); (case N => k_asm); (case i => (simp only [Array.toList_push]; exact f1.append (.cons _ _ .nil))); (case z => (simp; omega)); intro h9 t9 k9 x9 F9 N9 e9)
    k_steps
    exact hret _ _ _ _ _ F9 (News.nil) ⟨x9, t9, rfl, by rw [e9, p1]; rfl, rfl⟩

theorem lit_in {b : Array UInt8} {ks : List Int} (hb : KBw.bInts b = ks) : KBa.In (40 :: litTo ks ks.length ++ [41]) := by
  intro n hn
  simp only [List.cons_append, List.mem_cons, List.mem_append, List.not_mem_nil, or_false] at hn
  rcases hn with rfl | hn | rfl
  · omega
  · exact litTo_in (fun k hk => KBw.ints_in (b := b) (by rw [hb]; exact hk)) _ n hn
  · omega
set_option maxHeartbeats 8000000 in
theorem literal_octets_t {w : World} {b : Array UInt8} {t : Tok} {ks : List Int} (hb : KBw.bInts b = ks) (hl : ks.length ≤ 100) :
   Contract w 5 42 [.bytes b t] [] (bytesPost (lit ks)) := by
  k_with_none
  k_with "MINE w:callWith" => ((with_reducible show wpAny _ _ (callWith _ (Value.builtin _) (_ :: _) (backTo _ (starEach (_ :: _) _)) _) _ _ _); k_dflt (refine callWith_method1 ?_))
  k_with "MINE w:compareOp NotEq ref ref" => (k_here; (with_reducible show wpAny _ _ (compareOp CmpOp.NotEq (Value.ref _) (Value.ref _)) _ _ _); k_dflt (first
  | (refine' ne_tup2 ?w8N ?w8a ?w8b ?w8u ?w8e1 ?w8e2 ?_; (case w8N => k_asm); (case w8a => k_mem); (case w8b => k_mem); (case w8u => units_room); (case w8e1 => first | exact at_bytes (by assumption) (by assumption) | exact at_int (by first | rfl | omega) | exact at_str (by rfl)); (case w8e2 => first | exact at_bytes (by assumption) (by assumption) | exact at_int (by first | rfl | omega) | exact at_str (by rfl)); k_whole)
  | (refine' ne_tup3 ?w8N ?w8a ?w8b ?w8u ?w8e1 ?w8e2 ?w8e3 ?_; (case w8N => k_asm); (case w8a => k_mem); (case w8b => k_mem); (case w8u => units_room); (case w8e1 => first | exact at_bytes (by assumption) (by assumption) | exact at_int (by first | rfl | omega) | exact at_str (by rfl)); (case w8e2 => first | exact at_bytes (by assumption) (by assumption) | exact at_int (by first | rfl | omega) | exact at_str (by rfl)); (case w8e3 => first | exact at_bytes (by assumption) (by assumption) | exact at_int (by first | rfl | omega) | exact at_str (by rfl)); k_whole)))
  k_with "MINE w:compareOp NotEq bytes bytes" => (k_here; (with_reducible show wpAny _ _ (compareOp CmpOp.NotEq (Value.bytes _ _) (Value.bytes _ _)) _ _ _); k_dflt (refine' ne_bytes_same ?w8b ?w8c ?w8e ?_; (case w8b => first | assumption | rfl | exact KBw.ints_app (by assumption) (by first | assumption | rfl) | exact KBw.ints_app (by rfl) (by assumption)); (case w8c => first | assumption | rfl | exact KBw.ints_app (by assumption) (by first | assumption | rfl) | exact KBw.ints_app (by rfl) (by assumption)); (case w8e => first | rfl | exact lit_first _ | k_extra "MINE same"); k_whole))
  k_with "MINE w:compareOp Eq bytes bytes" => (k_here; (with_reducible show wpAny _ _ (compareOp CmpOp.Eq (Value.bytes _ _) (Value.bytes _ _)) _ _ _); k_dflt (refine' eq_bytes_same ?w8b ?w8c ?w8e ?_; (case w8b => first | assumption | rfl | exact KBw.ints_app (by assumption) (by first | assumption | rfl) | exact KBw.ints_app (by rfl) (by assumption)); (case w8c => first | assumption | rfl | exact KBw.ints_app (by assumption) (by first | assumption | rfl) | exact KBw.ints_app (by rfl) (by assumption)); (case w8e => first | rfl | exact lit_first _ | k_extra "MINE same"); k_whole))
  k_with "MINE ref" => refine hold_of ?_
  k_with "MINE call" => (k_dflt (refine' (lone_t hb hl).use0 ?uB ?uF ?uX ?uN ?uT ?uk ?ud ?uu ?_; ((case uB => k_asm); (case uF => k_asm); (case uX => k_asm); (case uN => k_asm); (case uT => k_asm); (case uk => first | exact rfl | assumption); (case ud => omega); (case uu => omega)); rintro r h7 tk7 n7 F7 N7 off7 ⟨d7, o7, kv7, rfl, rfl, lo7, dd7, ff7⟩; simp only [List.cons_append, List.nil_append] at N7))
  (have fillNow : PySem.Challenge.rw_og0184_01.row.prog = PySem.Challenge.rw_og0184_01.row.prog ∧ hd.heap_39 = hd.heap_39 := (by (k_fill; exact ⟨rfl, rfl⟩)); clear fillNow)
  refine' contract_of [(Str.ofString "octets", .bytes b t)] ?ho ?hcd ?hb ?hl ?h1 ?h2 ?h3 ?h4 ?_
  ((case ho => k_is); (case hcd => k_is); (case hb => intro s hX; exact BindsTo.of_eq rfl); (case hl => exact locs rfl); (case h1 => exact rfl); (case h2 => exact rfl); (case h3 => exact rfl); (case h4 => decide); k_whole; unfold Body)
  intro mean mg mb dp un gd outer A₀ base h₀ L s Q B X T F N hd hu hret hnone; k_fill; have kMark := kstMark
  k_steps
  rename_i h1 tk1 l0 h2 l1 h3 F3 N3 h4 tk4 t1 u1 v1 R5 F5 N5 keep5
  refine Hold.go (kst_range (σ := List Value × List Int × Nat) (fun (vs, ns, n) => [(l0, listOf vs.toArray n), (d7, o7)])
    (fun _ => []) (fun (vs, ns, n) => IntsAre vs ns) [Str.ofString "code"]
    (fun pre (vs, ns, n) => ns = 40 :: litTo ks pre.length) ([.int 40 198], [40], 0) rfl R5 (small_one (by omega) (by omega) (by omega) (by omega)) (n := ks.length) (by rw [rangeSize_nat]; simp) F5 N5 (.cons _ _ .nil) no_names rfl ?_ ?_)
  · rintro ⟨vs, ns, n⟩ pre k t u h tk own hk hlt hoff f1 hP F6 N6
    clear F5 N5 R5 keep5 F3 N3
    dsimp only [kstB] at F6
    dsimp only [List.map_cons, List.map_nil] at N6 hoff hP f1
    simp only [List.nil_append, List.cons_append] at N6
    rw [Int.zero_add] at hk
    subst hk
    have hz2 : ns.length ≤ 1000 := by rw [hP, List.length_cons]; have := litTo_len ks pre.length; omega
    have hz : vs.length ≤ 1000 := by rw [f1.length]; exact hz2
    have hoff0 : @Ne Nat l0 d7 := by omega
    k_steps
    · rename_i hc h8 tk9 ws9 c9 F8 N8 w8
      rw [Int.toNat_natCast] at hc
      refine kst_end (vs ++ ws9, ns ++ [92, 114], c9) (by assumption) N8 ?_ ?_ rfl ?_ no_names ?_ ?_
      · kst_in
      · intro p hp; kst_mem
      · exact f1.append w8
      · kst_same
      · dsimp only; rw [hP, List.length_append]; exact lit_cr hc
    · rename_i h7' hc tk7' hc' l8 h8 F8 N8 lt8 h9 F9 N9
      rw [Int.toNat_natCast] at hc hc'
      refine' kst_end (vs ++ [.int 92 _, .int (ks.getD pre.length 0) _], ns ++ [92, ks.getD pre.length 0], n + 1) (by assumption) N9 ?_ ?_ rfl ?_ no_names ?_ ?_
      · kst_in
      · intro p hp; kst_mem
      · exact f1.append (.cons _ _ (.cons _ _ .nil))
      · kst_same
      · dsimp only; rw [hP, List.length_append]; exact lit_esc hc (.inl hc')
    · rename_i h7' hc tk7' hc' hin tk8 l8 h8 F8 N8 lt8 h9 F9 N9
      rw [Int.toNat_natCast] at hc hc'
      rw [tts_isSome, decide_eq_true_eq] at hin
      refine' kst_end (vs ++ [.int 92 _, .int (ks.getD pre.length 0) _], ns ++ [92, ks.getD pre.length 0], n + 1) (by assumption) N9 ?_ ?_ rfl ?_ no_names ?_ ?_
      · kst_in
      · intro p hp; kst_mem
      · exact f1.append (.cons _ _ (.cons _ _ .nil))
      · kst_same
      · dsimp only; rw [hP, List.length_append]; exact lit_esc hc (.inr hin)
    · rename_i h7' hc tk7' hc' hin tk8 h9 F9 N9
      rw [Int.toNat_natCast] at hc hc'
      rw [tts_isSome, decide_eq_false_iff_not] at hin
      simp only [List.push_toArray] at N9
      refine' kst_end (vs ++ [.int (ks.getD pre.length 0) _], ns ++ [ks.getD pre.length 0], n + 1) (by assumption) N9 ?_ ?_ rfl ?_ no_names ?_ ?_
      · kst_in
      · intro p hp; kst_mem
      · exact f1.append (.cons _ _ .nil)
      · kst_same
      · dsimp only; rw [hP, List.length_append]; exact lit_as hc hc' hin
  · rintro ⟨vs, ns, n⟩ u h tk f1 hP F6 N6
    clear F5 N5 R5 keep5 F3 N3
    dsimp only [kstB] at F6
    dsimp only at N6 f1 hP
    rw [rangeKs_length] at hP
    have hz2 : ns.length ≤ 1000 := by rw [hP, List.length_cons]; have := litTo_len ks ks.length; omega
    have hz : vs.length ≤ 1000 := by rw [f1.length]; exact hz2
    have hin : KBa.In (ns ++ [41]) := by rw [hP]; exact lit_in hb
    k_with "MINE tobytes" => (k_dflt (refine' to_bytes ?F ?N rfl (List.Mem.head _) rfl ?i hin ?z ?_; (case F => k_asm); (case N => k_asm); (case i => (simp only [Array.toList_push]; exact f1.append (.cons _ _ .nil))); (case z => (simp; omega)); intro h9 t9 k9 x9 F9 N9 e9))
    k_steps
    exact hret _ _ _ _ _ F9 (News.nil) ⟨x9, t9, rfl, by rw [e9, hP]; exact lit_is ks, rfl⟩


theorem ints_lone {vs : List Value} {ks : List Int} {i : Nat} {t : Tok} (f : IntsAre vs (loneTo ks i)) (h : loneAt ks i = true) (hi : i < ks.length) : IntsAre (vs ++ [.int (i : Int) t]) (loneTo ks (ks.take (i + 1)).length) := by
  rw [List.length_take, Nat.min_eq_left (by omega)]
  show IntsAre _ (loneTo ks i ++ (if loneAt ks i = true then [(i : Int)] else []))
  rw [if_pos h]
  exact f.append (.cons _ _ .nil)
theorem ints_other {vs : List Value} {ks : List Int} {i : Nat} (f : IntsAre vs (loneTo ks i)) (h : loneAt ks i = false) (hi : i < ks.length) : IntsAre vs (loneTo ks (ks.take (i + 1)).length) := by
  rw [List.length_take, Nat.min_eq_left (by omega)]
  show IntsAre _ (loneTo ks i ++ (if loneAt ks i = true then [(i : Int)] else []))
  rw [if_neg (by rw [h]; decide), List.append_nil]
  exact f
set_option maxHeartbeats 8000000 in
theorem lone_law_t {w : World} {b : Array UInt8} {t : Tok} {ks : List Int} (hb : KBw.bInts b = ks) (hl : ks.length ≤ 100) :
   Contract w 3 475 [.bytes b t] [] (fun r n => ∃ a vs c, r = .ref a ∧ n = [(a, listOf vs.toArray c)] ∧ IntsAre vs (loneTo ks ks.length)) := by
  k_with_none
  k_with "MINE w:callWith" => ((with_reducible show wpAny _ _ (callWith _ (Value.builtin _) (_ :: _) (backTo _ (starEach (_ :: _) _)) _) _ _ _); k_dflt (refine callWith_method1 ?_))
  k_with "MINE w:compareOp NotEq ref ref" => (k_here; (with_reducible show wpAny _ _ (compareOp CmpOp.NotEq (Value.ref _) (Value.ref _)) _ _ _); k_dflt (first
  | (refine' ne_tup2 ?w8N ?w8a ?w8b ?w8u ?w8e1 ?w8e2 ?_; (case w8N => k_asm); (case w8a => k_mem); (case w8b => k_mem); (case w8u => units_room); (case w8e1 => first | exact at_bytes (by assumption) (by assumption) | exact at_int (by first | rfl | omega) | exact at_str (by rfl)); (case w8e2 => first | exact at_bytes (by assumption) (by assumption) | exact at_int (by first | rfl | omega) | exact at_str (by rfl)); k_whole)
  | (refine' ne_tup3 ?w8N ?w8a ?w8b ?w8u ?w8e1 ?w8e2 ?w8e3 ?_; (case w8N => k_asm); (case w8a => k_mem); (case w8b => k_mem); (case w8u => units_room); (case w8e1 => first | exact at_bytes (by assumption) (by assumption) | exact at_int (by first | rfl | omega) | exact at_str (by rfl)); (case w8e2 => first | exact at_bytes (by assumption) (by assumption) | exact at_int (by first | rfl | omega) | exact at_str (by rfl)); (case w8e3 => first | exact at_bytes (by assumption) (by assumption) | exact at_int (by first | rfl | omega) | exact at_str (by rfl)); k_whole)))
  k_with "MINE w:compareOp NotEq bytes bytes" => (k_here; (with_reducible show wpAny _ _ (compareOp CmpOp.NotEq (Value.bytes _ _) (Value.bytes _ _)) _ _ _); k_dflt (refine' ne_bytes_same ?w8b ?w8c ?w8e ?_; (case w8b => first | assumption | rfl | exact KBw.ints_app (by assumption) (by first | assumption | rfl) | exact KBw.ints_app (by rfl) (by assumption)); (case w8c => first | assumption | rfl | exact KBw.ints_app (by assumption) (by first | assumption | rfl) | exact KBw.ints_app (by rfl) (by assumption)); (case w8e => first | rfl | exact lit_first _ | k_extra "MINE same"); k_whole))
  k_with "MINE w:compareOp Eq bytes bytes" => (k_here; (with_reducible show wpAny _ _ (compareOp CmpOp.Eq (Value.bytes _ _) (Value.bytes _ _)) _ _ _); k_dflt (refine' eq_bytes_same ?w8b ?w8c ?w8e ?_; (case w8b => first | assumption | rfl | exact KBw.ints_app (by assumption) (by first | assumption | rfl) | exact KBw.ints_app (by rfl) (by assumption)); (case w8c => first | assumption | rfl | exact KBw.ints_app (by assumption) (by first | assumption | rfl) | exact KBw.ints_app (by rfl) (by assumption)); (case w8e => first | rfl | exact lit_first _ | k_extra "MINE same"); k_whole))
  k_with "MINE enum" => refine hold_of ?_
  k_with "MINE while" => refine hold_of ?_
  k_with "MINE way" => (k_dflt (first | exact ⟨⟨_, _, rfl, .inl ⟨rfl, by assumption⟩⟩, _, rfl⟩ | exact ⟨⟨_, _, rfl, .inr ⟨rfl, by have := any_yes (by assumption); omega⟩⟩, _, rfl⟩))
  k_with "MINE ifexp" => (k_here; (fail_if_success (with_reducible show wpAny _ _ _ (WayEnd _ _) _ _)); (with_reducible show wpAny _ _ (eval (.IfExp (.Compare (.Name _ _) _ _ _) _ _ _) _) _ _ _); k_dflt (refine way_cut (fun v => ∃ st ts, v = .int st ts ∧ (st = 1 ∧ ks.getD i 0 = 40 ∨ st = -1 ∧ ks.getD i 0 = 41)) ?_ ?_; rotate_left; rintro v tk9 ⟨st, ts9, rfl, hst⟩))
  (have fillNow : PySem.Challenge.rw_og0184_01.row.prog = PySem.Challenge.rw_og0184_01.row.prog ∧ hd.heap_39 = hd.heap_39 := (by (k_fill; exact ⟨rfl, rfl⟩)); clear fillNow)
  refine' contract_of [(Str.ofString "octets", .bytes b t)] ?ho ?hcd ?hb ?hl ?h1 ?h2 ?h3 ?h4 ?_
  ((case ho => k_is); (case hcd => k_is); (case hb => intro s hX; exact BindsTo.of_eq rfl); (case hl => exact locs rfl); (case h1 => exact rfl); (case h2 => exact rfl); (case h3 => exact rfl); (case h4 => decide); k_whole; unfold Body)
  intro mean mg mb dp un gd outer A₀ base h₀ L s Q B X T F N hd hu hret hnone; k_fill; have kMark := kstMark
  k_steps
  rename_i l0 h1 l1 h2 F1 N1
  refine Hold.go (kst_enum (σ := List Value × Nat) (fun (vs, n) => [(l0, listOf vs.toArray n)]) (fun _ => []) (fun _ => True)
    [Str.ofString "at", Str.ofString "depth", Str.ofString "partner", Str.ofString "step", Str.ofString "spot"] (fun pre (vs, n) => IntsAre vs (loneTo ks pre.length)) ([], 0) hb rfl F1 N1 trivial no_names .nil ?_ ?_)
  · rintro ⟨vs, n⟩ i t1 t2 u h tk own hi hoff - f1 F2 N2
    clear F1 N1
    dsimp only [kstB] at F2
    dsimp only at f1
    simp only [List.map_cons, List.map_nil] at hoff
    dsimp only at N2
    simp only [List.cons_append, List.nil_append] at N2
    rw [List.length_take, Nat.min_eq_left (by omega)] at f1
    have hl0 : (loneTo ks i).length ≤ 100 := by have := loneTo_len ks i; omega
    have hz : vs.length ≤ 100 := by rw [f1.length]; exact hl0
    k_with "MINE block" => (
      (refine Hold.go (ksw_while (σ := Int × Int × Int × Tok × Tok × Tok) (fun _ => (l0, listOf vs.toArray n) :: own)
        (fun (d, p, sp, td, tp, ts) => [(Str.ofString "spot", .int sp ts), (Str.ofString "depth", .int d td), (Str.ofString "partner", .int p tp)])
        (fun _ => True) [] (fun (d, p, sp, td, tp, ts) => Seek ks i st d p sp)
        (fun (d, p, sp, td, tp, ts) => (restOf ks st sp).length) (0, -1, i, td, tp, t1) F3 ?cN trivial ?ck (seek_start hi hst) ?_));
      (case cN => (intro p hp; exact N3 p (List.Mem.tail _ (List.Mem.tail _ hp))));
      (case ck => kst_all))
    k_with "MINE end" => refine hold_of ?_
    k_with "MINE close" => (
      refine Hold.go ?_
      (rename News _ _ _ _ => N9)
      (try simp only [List.push_toArray] at N9)
      first
      | (refine' kst_end (vs ++ [.int (i : Int) t1], n + 1) (by assumption) N9 ?a ?b rfl trivial no_names ?c (ints_lone (t := t1) f1 (seek_none g (by omega) (by omega)) hi)
         (case a => kst_in)
         (case b => (intro p hp; kst_mem))
         (case c => (intro z h1 _ h3; have h4 := h3; simp only [List.contains_cons, List.contains_nil, Bool.or_false, Bool.or_eq_false_iff, beq_eq_false_iff_ne, ne_eq] at h4; obtain ⟨e1, e2, e3, e4, e5⟩ := h4; simp only [if_neg h1, if_neg e1, if_neg e2, if_neg e3, if_neg e4, if_neg e5, h3, Bool.false_eq_true, if_false]; rfl)))
      | (refine' kst_end (vs, n) (by assumption) N9 ?a ?b rfl trivial no_names ?c (ints_other f1 (seek_found g (by omega)) hi)
         (case a => kst_in)
         (case b => (intro p hp; kst_mem))
         (case c => (intro z h1 _ h3; have h4 := h3; simp only [List.contains_cons, List.contains_nil, Bool.or_false, Bool.or_eq_false_iff, beq_eq_false_iff_ne, ne_eq] at h4; obtain ⟨e1, e2, e3, e4, e5⟩ := h4; simp only [if_neg h1, if_neg e1, if_neg e2, if_neg e3, if_neg e4, if_neg e5, h3, Bool.false_eq_true, if_false]; rfl)))
      | (refine' ksw_end ⟨_, _, _, _, _, _⟩ (by assumption) N9 ?hn trivial ?hk ?hr ?hp ?hm
         (case hk => kst_all)
         (case hn => first | exact fun p hp => hp | exact fun p hp => List.Mem.tail _ hp)
         (case hr => (intro z h2 _; have e1 := h2 _ (.head _); have e2 := h2 _ (.tail _ (.head _)); have e3 := h2 _ (.tail _ (.tail _ (.head _))); dsimp only at e1 e2 e3; simp only [if_neg e1, if_neg e2, if_neg e3]; rfl))
         (case hp => (
           (have q0 : 0 ≤ sp := by omega)
           (have q1 : sp < (ks.length : Int) := by omega)
           (have q2 : p < 0 := by omega)
           (have hw := w1_cases (ks.getD sp.toNat 0))
           (try replace hany := any_yes (by assumption))
           (try replace hany := any_no (by assumption))
           (try clear g1 g2 g3 g4 g7 g8 hst hl0 hz hd hu hl hi)
           dsimp only; exact (seek_turn g q0 q1 q2 (by omega) (by omega)).1))
         (case hm => (dsimp only; exact seek_less g (by omega) (by omega)))))
    k_with "MINE frame" => (
      (rintro ⟨d, p, sp, td, tp, ts⟩ u h tk - g F4 N4)
      (clear F3 N3)
      (dsimp only [kstB] at F4)
      (try dsimp only at g N4)
      (obtain ⟨g1, g2, g3, g4, _⟩ := id g)
      (have g7 : -100 ≤ d ∧ d ≤ 100 := by omega)
      (have g8 : -1 ≤ sp ∧ sp ≤ 100 := by omega))
    k_steps
    · (rename Fr h₀ L _ _ => F3)
      (rename News _ _ _ _ => N3)
      obtain ⟨td, tp, ts, F3⟩ : ∃ (td tp ts : Tok), Fr h₀ L _ (fun y => if y = Str.ofString "spot" then some (Value.int (↑i) t1) else if y = Str.ofString "depth" then some (Value.int 0 td) else if y = Str.ofString "partner" then some (Value.int (-1) tp) else if y = Str.ofString "step" then some (Value.int st ts) else if y = Str.ofString "code" then some (Value.int (ks.getD i 0) t2) else if y = Str.ofString "at" then some (Value.int (↑i) t1) else if [Str.ofString "at", Str.ofString "depth", Str.ofString "partner", Str.ofString "step", Str.ofString "spot"].contains y = true then u y else if y = Str.ofString "found" then some (Value.ref l0) else List.lookup y [(Str.ofString "octets", Value.bytes b t)].reverse) := ⟨_, _, _, F3⟩
      k_extra "MINE block"
      k_extra "MINE frame"
      k_with "MINE way" => (k_dflt (exact ⟨⟨_, _, rfl, by have := w1_cases (ks.getD sp.toNat 0); omega⟩, _, rfl⟩))
      k_with "MINE ifexp" => (k_here; (fail_if_success (with_reducible show wpAny _ _ _ (WayEnd _ _) _ _)); (with_reducible show wpAny _ _ (eval (.IfExp (.Compare (.Subscript _ _ _) _ _ _) _ _ _) _) _ _ _); k_dflt (refine way_cut (fun v => ∃ k9 ts, v = .int k9 ts ∧ k9 = w1 (ks.getD sp.toNat 0)) ?_ ?_; rotate_left; rintro v tk9 ⟨k9, ts9, rfl, hk9⟩; have hb9 : -1 ≤ k9 ∧ k9 ≤ 1 := by have := w1_cases (ks.getD sp.toNat 0); omega))
      k_steps
      all_goals (first | exact (0 : Nat) | k_extra "MINE close")

    · refine Hold.go ?_
      rename News _ _ _ _ => N9
      have hno := any_no (by assumption)
      refine' kst_end (vs, n) (by assumption) N9 ?a ?b rfl trivial no_names ?c (ints_other f1 (lone_other hno.1 hno.2) hi)
      · kst_in
      · intro p hp; kst_mem
      · kst_same
  · rintro ⟨vs, n⟩ u h tk - f1 F2 N2
    clear F1 N1
    dsimp only [kstB] at F2
    dsimp only at f1 N2
    k_steps
    exact hret _ _ _ _ _ F2 N2 ⟨_, _, _, rfl, rfl, f1⟩


set_option maxHeartbeats 8000000 in
theorem law_read_t {w : World} {b : Array UInt8} {t : Tok} {ks : List Int} (hb : KBw.bInts b = lit ks) (hl : ks.length ≤ 100) (hin : ∀ k ∈ ks, 0 ≤ k ∧ k < 256) :
   Contract w 3 482 [.bytes b t] [] (fun r n => ∃ a x tx tl, r = .ref a ∧ n = [(a, { cls := .type "tuple", data := .seq #[.bytes x tx, .int ((lit ks).length : Int) tl] })] ∧ KBw.bInts x = ks) := by
  k_with_none
  k_with "MINE w:callWith" => ((with_reducible show wpAny _ _ (callWith _ (Value.builtin _) (_ :: _) (backTo _ (starEach (_ :: _) _)) _) _ _ _); k_dflt (refine callWith_method1 ?_))
  k_with "MINE w:compareOp NotEq ref ref" => (k_here; (with_reducible show wpAny _ _ (compareOp CmpOp.NotEq (Value.ref _) (Value.ref _)) _ _ _); k_dflt (first
  | (refine' ne_tup2 ?w8N ?w8a ?w8b ?w8u ?w8e1 ?w8e2 ?_; (case w8N => k_asm); (case w8a => k_mem); (case w8b => k_mem); (case w8u => units_room); (case w8e1 => first | exact at_bytes (by assumption) (by assumption) | exact at_int (by first | rfl | omega) | exact at_str (by rfl)); (case w8e2 => first | exact at_bytes (by assumption) (by assumption) | exact at_int (by first | rfl | omega) | exact at_str (by rfl)); k_whole)
  | (refine' ne_tup3 ?w8N ?w8a ?w8b ?w8u ?w8e1 ?w8e2 ?w8e3 ?_; (case w8N => k_asm); (case w8a => k_mem); (case w8b => k_mem); (case w8u => units_room); (case w8e1 => first | exact at_bytes (by assumption) (by assumption) | exact at_int (by first | rfl | omega) | exact at_str (by rfl)); (case w8e2 => first | exact at_bytes (by assumption) (by assumption) | exact at_int (by first | rfl | omega) | exact at_str (by rfl)); (case w8e3 => first | exact at_bytes (by assumption) (by assumption) | exact at_int (by first | rfl | omega) | exact at_str (by rfl)); k_whole)))
  k_with "MINE w:compareOp NotEq bytes bytes" => (k_here; (with_reducible show wpAny _ _ (compareOp CmpOp.NotEq (Value.bytes _ _) (Value.bytes _ _)) _ _ _); k_dflt (refine' ne_bytes_same ?w8b ?w8c ?w8e ?_; (case w8b => first | assumption | rfl | exact KBw.ints_app (by assumption) (by first | assumption | rfl) | exact KBw.ints_app (by rfl) (by assumption)); (case w8c => first | assumption | rfl | exact KBw.ints_app (by assumption) (by first | assumption | rfl) | exact KBw.ints_app (by rfl) (by assumption)); (case w8e => first | rfl | exact lit_first _ | k_extra "MINE same"); k_whole))
  k_with "MINE w:compareOp Eq bytes bytes" => (k_here; (with_reducible show wpAny _ _ (compareOp CmpOp.Eq (Value.bytes _ _) (Value.bytes _ _)) _ _ _); k_dflt (refine' eq_bytes_same ?w8b ?w8c ?w8e ?_; (case w8b => first | assumption | rfl | exact KBw.ints_app (by assumption) (by first | assumption | rfl) | exact KBw.ints_app (by rfl) (by assumption)); (case w8c => first | assumption | rfl | exact KBw.ints_app (by assumption) (by first | assumption | rfl) | exact KBw.ints_app (by rfl) (by assumption)); (case w8e => first | rfl | exact lit_first _ | k_extra "MINE same"); k_whole))
  k_with "MINE while" => refine hold_of ?_
  k_with "MINE ite" => (k_dflt (first | refine ite_pos (decide_eq_true (by omega)) ?_ | refine ite_neg (fun h => absurd (of_decide_eq_true h) (by omega)) ?_))
  k_with "MINE end" => refine hold_of ?_
  (have fillNow : PySem.Challenge.rw_og0184_01.row.prog = PySem.Challenge.rw_og0184_01.row.prog ∧ hd.heap_39 = hd.heap_39 := (by (k_fill; exact ⟨rfl, rfl⟩)); clear fillNow)
  refine' contract_of [(Str.ofString "octets", .bytes b t)] ?ho ?hcd ?hb ?hl ?h1 ?h2 ?h3 ?h4 ?_
  ((case ho => k_is); (case hcd => k_is); (case hb => intro s hX; exact BindsTo.of_eq rfl); (case hl => exact locs rfl); (case h1 => exact rfl); (case h2 => exact rfl); (case h3 => exact rfl); (case h4 => decide); k_whole; unfold Body)
  intro mean mg mb dp un gd outer A₀ base h₀ L s Q B X T F N hd hu hret hnone; k_fill; have kMark := kstMark
  k_steps
  rename_i l0 h1 l1 D0 h2 l2 h3 h4 h5 h6 F1 N1
  refine Hold.go (ksw_while (σ := List Value × List Int × Nat × Int × Int × Tok × Tok) (fun (vs, ns, n, pl, d, tp, td) => [(l0, listOf vs.toArray n)])
    (fun (vs, ns, n, pl, d, tp, td) => [(Str.ofString "at", .int pl tp), (Str.ofString "depth", .int d td)]) (fun (vs, ns, n, pl, d, tp, td) => IntsAre vs ns) [Str.ofString "code"]
    (fun (vs, ns, n, pl, d, tp, td) => Reading ks ns pl d ∧ 0 ≤ d) (fun (vs, ns, n, pl, d, tp, td) => ((lit ks).length + 1 - pl).toNat) ([], [], 0, 1, 1, _, _) F1 (fun p hp => N1 p (List.Mem.tail _ hp)) .nil (by kst_all) ⟨read_start ks, by decide⟩ ?_)
  rintro ⟨vs, ns, n, pl, d, tp, td⟩ u h tk f1 ⟨g, g0⟩ F2 N2
  clear F1 N1
  dsimp only [kstB] at F2
  try dsimp only at f1 N2 g g0
  k_with "MINE names" => (intro z h2 h3; have e1 := h2 _ (.head _); have e2 := h2 _ (.tail _ (.head _)); dsimp only at e1 e2; have e3 : z ≠ Str.ofString "code" := fun e => by { subst e; exact absurd h3 (by decide) }; simp only [if_neg e1, if_neg e2, if_neg e3, h3, Bool.false_eq_true, if_false])
  by_cases hd0 : 0 < d
  · obtain ⟨r1, r2, r3, r4, rc⟩ := read_cases g hd0
    have r5 := lit_length ks
    have hz2 : ns.length ≤ 100 := by omega
    have hz : vs.length ≤ 100 := by rw [f1.length]; exact hz2
    clear g
    generalize hD : lit ks = D at *
    have hD' := Hold.go hD
    clear hD
    rcases rc with ⟨q1, q2, q3⟩ | ⟨q1, q2, q3, q4⟩ | ⟨q1, q6, q2, q3, q4⟩
    · have q3' := Hold.go q3
      clear q3
      k_with "MINE close" => (
        refine Hold.go ?_
        (rename News _ _ _ _ => N9)
        (simp only [List.push_toArray] at N9)
        (have h9 := q3'.out)
        (first
          | ((rw [if_pos (by assumption)] at h9); (refine' ksw_end ⟨vs ++ [.int 13 _], ns ++ [13], _, _, _, _, _⟩ (by assumption) N9 ?hn ?hf ?hk ?hr ?hp ?hm))
          | ((rw [if_neg (by assumption)] at h9); (refine' ksw_end ⟨vs ++ [.int (D.getD (pl + 1).toNat 0) _], ns ++ [D.getD (pl + 1).toNat 0], _, _, _, _, _⟩ (by assumption) N9 ?hn ?hf ?hk ?hr ?hp ?hm)))
        (case hk => kst_all)
        (case hn => kst_in)
        (case hf => exact f1.append (.cons _ _ .nil))
        (case hr => k_extra "MINE names")
        (case hp => (dsimp only; refine ⟨?_, g0⟩; rw [Int.add_assoc]; exact h9))
        (case hm => (dsimp only; omega)))
      k_steps
      all_goals k_extra "MINE close"
    · k_with "MINE close" => (
        refine Hold.go ?_
        (rename News _ _ _ _ => N9)
        (refine' ksw_end ⟨_, _, _, _, _, _, _⟩ (by assumption) N9 ?hn f1 ?hk ?hr ?hp ?hm)
        (case hk => kst_all)
        (case hn => kst_in)
        (case hr => k_extra "MINE names")
        (case hp => (dsimp only; refine ⟨.inl ⟨rfl, q4, ?_⟩, Int.le_refl _⟩; rw [hD'.out]; omega))
        (case hm => (dsimp only; omega)))
      k_steps
      all_goals k_extra "MINE close"
    · have q3' := Hold.go q3
      clear q3
      k_with "MINE close" => (
        refine Hold.go ?_
        (rename News _ _ _ _ => N9)
        (simp only [List.push_toArray] at N9)
        (refine' ksw_end ⟨vs ++ [.int (D.getD pl.toNat 0) _], ns ++ [D.getD pl.toNat 0], _, _, _, _, _⟩ (by assumption) N9 ?hn ?hf ?hk ?hr ?hp ?hm)
        (case hk => kst_all)
        (case hn => kst_in)
        (case hf => exact f1.append (.cons _ _ .nil))
        (case hr => k_extra "MINE names")
        (case hp => (dsimp only; have h9 := q3'.out; have hw := w1_cases (D.getD pl.toNat 0); refine ⟨?_, by omega⟩; (have e9 : ∀ x : Int, x = d + w1 (D.getD pl.toNat 0) → Reading ks (ns ++ [D.getD pl.toNat 0]) (pl + 1) x := fun x hx => by { rw [hx]; exact h9 }); exact e9 _ (by omega)))
        (case hm => (dsimp only; omega)))
      k_steps
      all_goals k_extra "MINE close"
  · have hd1 : d = 0 := by omega
    subst hd1
    obtain ⟨e1, e2⟩ := read_end g
    have hin' : KBa.In ns := by rw [e1]; exact hin
    have hz2 : ns.length ≤ 100 := by rw [e1]; exact hl
    k_with "MINE tobytes" => (k_dflt (refine' to_bytes ?F ?N rfl (List.Mem.head _) rfl ?i hin' ?z ?_; (case F => k_asm); (case N => k_asm); (case i => exact f1); (case z => omega); intro h9 t9 k9 x9 F9 N9 e9))
    k_steps
    rename News _ _ _ _ => N9
    subst e2
    exact hret _ _ _ _ _ (by assumption) (news_head N9) ⟨_, _, _, _, rfl, rfl, by rw [e9, e1]⟩

set_option maxHeartbeats 8000000 in
theorem esc_codes_t {w : World} {b : Array UInt8} {t k1 k2 k3 t2 t3 : Tok} {x d : Addr} {E : List Int} {pl : Int} (hb : KBw.bInts b = E) (hl : E.length ≤ 300) (hxd : @Ne Nat x d) (r1 : 1 ≤ pl) (r2 : pl < E.length)
    (hv : E.getD pl.toNat 0 = 114 ∨ E.getD pl.toNat 0 = 92 ∨ E.getD pl.toNat 0 = 40 ∨ E.getD pl.toNat 0 = 41) :
   Contract w 8 389 [.ref x] [(x, instObj 182 d), (d, (dictOf [{ hash := PyData.keyHash w.params (Str.ofString "data"), key := .str (Str.ofString "data") k1, val := .bytes b t }, { hash := PyData.keyHash w.params (Str.ofString "at"), key := .str (Str.ofString "at") k2, val := .int pl t2 }, { hash := PyData.keyHash w.params (Str.ofString "end"), key := .str (Str.ofString "end") k3, val := .int (E.length : Int) t3 }] 3))] (fun r n => ∃ a v tv t4 c, r = .ref a ∧ n = [(a, listOf #[.int v tv] c), (x, instObj 182 d), (d, (dictOf [{ hash := PyData.keyHash w.params (Str.ofString "data"), key := .str (Str.ofString "data") k1, val := .bytes b t }, { hash := PyData.keyHash w.params (Str.ofString "at"), key := .str (Str.ofString "at") k2, val := .int (pl + 1) t4 }, { hash := PyData.keyHash w.params (Str.ofString "end"), key := .str (Str.ofString "end") k3, val := .int (E.length : Int) t3 }] 3))] ∧ v = (if E.getD pl.toNat 0 = 114 then 13 else E.getD pl.toNat 0)) := by
  k_with_none
  k_with "MINE w:callWith" => ((with_reducible show wpAny _ _ (callWith _ (Value.builtin _) (_ :: _) (backTo _ (starEach (_ :: _) _)) _) _ _ _); k_dflt (refine callWith_method1 ?_))
  k_with "MINE w:compareOp NotEq ref ref" => (k_here; (with_reducible show wpAny _ _ (compareOp CmpOp.NotEq (Value.ref _) (Value.ref _)) _ _ _); k_dflt (first
  | (refine' ne_tup2 ?w8N ?w8a ?w8b ?w8u ?w8e1 ?w8e2 ?_; (case w8N => k_asm); (case w8a => k_mem); (case w8b => k_mem); (case w8u => units_room); (case w8e1 => first | exact at_bytes (by assumption) (by assumption) | exact at_int (by first | rfl | omega) | exact at_str (by rfl)); (case w8e2 => first | exact at_bytes (by assumption) (by assumption) | exact at_int (by first | rfl | omega) | exact at_str (by rfl)); k_whole)
  | (refine' ne_tup3 ?w8N ?w8a ?w8b ?w8u ?w8e1 ?w8e2 ?w8e3 ?_; (case w8N => k_asm); (case w8a => k_mem); (case w8b => k_mem); (case w8u => units_room); (case w8e1 => first | exact at_bytes (by assumption) (by assumption) | exact at_int (by first | rfl | omega) | exact at_str (by rfl)); (case w8e2 => first | exact at_bytes (by assumption) (by assumption) | exact at_int (by first | rfl | omega) | exact at_str (by rfl)); (case w8e3 => first | exact at_bytes (by assumption) (by assumption) | exact at_int (by first | rfl | omega) | exact at_str (by rfl)); k_whole)))
  k_with "MINE w:compareOp NotEq bytes bytes" => (k_here; (with_reducible show wpAny _ _ (compareOp CmpOp.NotEq (Value.bytes _ _) (Value.bytes _ _)) _ _ _); k_dflt (refine' ne_bytes_same ?w8b ?w8c ?w8e ?_; (case w8b => first | assumption | rfl | exact KBw.ints_app (by assumption) (by first | assumption | rfl) | exact KBw.ints_app (by rfl) (by assumption)); (case w8c => first | assumption | rfl | exact KBw.ints_app (by assumption) (by first | assumption | rfl) | exact KBw.ints_app (by rfl) (by assumption)); (case w8e => first | rfl | exact lit_first _ | k_extra "MINE same"); k_whole))
  k_with "MINE w:compareOp Eq bytes bytes" => (k_here; (with_reducible show wpAny _ _ (compareOp CmpOp.Eq (Value.bytes _ _) (Value.bytes _ _)) _ _ _); k_dflt (refine' eq_bytes_same ?w8b ?w8c ?w8e ?_; (case w8b => first | assumption | rfl | exact KBw.ints_app (by assumption) (by first | assumption | rfl) | exact KBw.ints_app (by rfl) (by assumption)); (case w8c => first | assumption | rfl | exact KBw.ints_app (by assumption) (by first | assumption | rfl) | exact KBw.ints_app (by rfl) (by assumption)); (case w8e => first | rfl | exact lit_first _ | k_extra "MINE same"); k_whole))
  k_with "MINE while" => refine hold_of ?_
  k_with "MINE ite" => (k_dflt (first | refine ite_pos (decide_eq_true (by omega)) ?_ | refine ite_neg (fun h => absurd (of_decide_eq_true h) (by omega)) ?_))
  (have fillNow : PySem.Challenge.rw_og0184_01.row.prog = PySem.Challenge.rw_og0184_01.row.prog ∧ hd.heap_39 = hd.heap_39 := (by (k_fill; exact ⟨rfl, rfl⟩)); clear fillNow)
  refine' contract_of [(Str.ofString "cursor", .ref x)] ?ho ?hcd ?hb ?hl ?h1 ?h2 ?h3 ?h4 ?_
  ((case ho => k_is); (case hcd => k_is); (case hb => intro s hX; exact BindsTo.of_eq rfl); (case hl => exact locs rfl); (case h1 => exact rfl); (case h2 => exact rfl); (case h3 => exact rfl); (case h4 => decide); k_whole; unfold Body)
  intro mean mg mb dp un gd outer A₀ base h₀ L s Q B X T F N hd hu hret hnone; k_fill; have kMark := kstMark
  have p0 : E.getD (pl + 0).toNat 0 = E.getD pl.toNat 0 := by rw [Int.add_zero]
  k_steps
  all_goals (rename News _ _ _ _ => N9)
  · exact hret _ _ _ _ _ (by assumption) N9 ⟨_, _, _, _, _, rfl, rfl, rfl⟩
  · exact hret _ _ _ _ _ (by assumption) N9 ⟨_, _, _, _, _, rfl, rfl, (if_neg (by omega)).symm⟩

set_option maxHeartbeats 8000000 in
theorem literal_t {w : World} {b : Array UInt8} {t k1 k2 k3 t2 t3 : Tok} {x d : Addr} {ks : List Int} (hb : KBw.bInts b = lit ks ++ [55]) (hl : ks.length ≤ 100) (hin : ∀ k ∈ ks, 0 ≤ k ∧ k < 256) (hxd : @Ne Nat x d) :
   Contract w 20 396 [.ref x] [(x, instObj 182 d), (d, (dictOf [{ hash := PyData.keyHash w.params (Str.ofString "data"), key := .str (Str.ofString "data") k1, val := .bytes b t }, { hash := PyData.keyHash w.params (Str.ofString "at"), key := .str (Str.ofString "at") k2, val := .int 1 t2 }, { hash := PyData.keyHash w.params (Str.ofString "end"), key := .str (Str.ofString "end") k3, val := .int (((lit ks).length + 1 : Nat) : Int) t3 }] 3))] (fun r n => ∃ y ty, r = .bytes y ty ∧ n = [] ∧ KBw.bInts y = ks) := by
  k_with_none
  k_with "MINE w:callWith" => ((with_reducible show wpAny _ _ (callWith _ (Value.builtin _) (_ :: _) (backTo _ (starEach (_ :: _) _)) _) _ _ _); k_dflt (refine callWith_method1 ?_))
  k_with "MINE w:compareOp NotEq ref ref" => (k_here; (with_reducible show wpAny _ _ (compareOp CmpOp.NotEq (Value.ref _) (Value.ref _)) _ _ _); k_dflt (first
  | (refine' ne_tup2 ?w8N ?w8a ?w8b ?w8u ?w8e1 ?w8e2 ?_; (case w8N => k_asm); (case w8a => k_mem); (case w8b => k_mem); (case w8u => units_room); (case w8e1 => first | exact at_bytes (by assumption) (by assumption) | exact at_int (by first | rfl | omega) | exact at_str (by rfl)); (case w8e2 => first | exact at_bytes (by assumption) (by assumption) | exact at_int (by first | rfl | omega) | exact at_str (by rfl)); k_whole)
  | (refine' ne_tup3 ?w8N ?w8a ?w8b ?w8u ?w8e1 ?w8e2 ?w8e3 ?_; (case w8N => k_asm); (case w8a => k_mem); (case w8b => k_mem); (case w8u => units_room); (case w8e1 => first | exact at_bytes (by assumption) (by assumption) | exact at_int (by first | rfl | omega) | exact at_str (by rfl)); (case w8e2 => first | exact at_bytes (by assumption) (by assumption) | exact at_int (by first | rfl | omega) | exact at_str (by rfl)); (case w8e3 => first | exact at_bytes (by assumption) (by assumption) | exact at_int (by first | rfl | omega) | exact at_str (by rfl)); k_whole)))
  k_with "MINE w:compareOp NotEq bytes bytes" => (k_here; (with_reducible show wpAny _ _ (compareOp CmpOp.NotEq (Value.bytes _ _) (Value.bytes _ _)) _ _ _); k_dflt (refine' ne_bytes_same ?w8b ?w8c ?w8e ?_; (case w8b => first | assumption | rfl | exact KBw.ints_app (by assumption) (by first | assumption | rfl) | exact KBw.ints_app (by rfl) (by assumption)); (case w8c => first | assumption | rfl | exact KBw.ints_app (by assumption) (by first | assumption | rfl) | exact KBw.ints_app (by rfl) (by assumption)); (case w8e => first | rfl | exact lit_first _ | k_extra "MINE same"); k_whole))
  k_with "MINE w:compareOp Eq bytes bytes" => (k_here; (with_reducible show wpAny _ _ (compareOp CmpOp.Eq (Value.bytes _ _) (Value.bytes _ _)) _ _ _); k_dflt (refine' eq_bytes_same ?w8b ?w8c ?w8e ?_; (case w8b => first | assumption | rfl | exact KBw.ints_app (by assumption) (by first | assumption | rfl) | exact KBw.ints_app (by rfl) (by assumption)); (case w8c => first | assumption | rfl | exact KBw.ints_app (by assumption) (by first | assumption | rfl) | exact KBw.ints_app (by rfl) (by assumption)); (case w8e => first | rfl | exact lit_first _ | k_extra "MINE same"); k_whole))
  k_with "MINE while" => refine hold_of ?_
  k_with "MINE ite" => (k_dflt (first | refine ite_pos (decide_eq_true (by omega)) ?_ | refine ite_neg (fun h => absurd (of_decide_eq_true h) (by omega)) ?_))
  k_with "MINE end" => refine hold_of ?_
  have hz0 : (lit ks).length ≤ 202 := by have := lit_length ks; omega
  generalize hE : lit ks ++ [55] = E at *
  have hEl : (lit ks).length + 1 = E.length := by rw [← hE]; simp
  rw [hEl]
  have hE' := Hold.go hE
  clear hE
  (have fillNow : PySem.Challenge.rw_og0184_01.row.prog = PySem.Challenge.rw_og0184_01.row.prog ∧ hd.heap_39 = hd.heap_39 := (by (k_fill; exact ⟨rfl, rfl⟩)); clear fillNow)
  refine' contract_of [(Str.ofString "cursor", .ref x)] ?ho ?hcd ?hb ?hl ?h1 ?h2 ?h3 ?h4 ?_
  ((case ho => k_is); (case hcd => k_is); (case hb => intro s hX; exact BindsTo.of_eq rfl); (case hl => exact locs rfl); (case h1 => exact rfl); (case h2 => exact rfl); (case h3 => exact rfl); (case h4 => decide); k_whole; unfold Body)
  intro mean mg mb dp un gd outer A₀ base h₀ L s Q B X T F N hd hu hret hnone; k_fill; have kMark := kstMark
  k_steps
  rename_i h1 l0 h2 l1 h3 h4 F1 N1
  refine Hold.go (ksw_while (σ := List Value × List Int × Nat × Int × Int × Tok × Tok) (fun (vs, ns, n, pl, dd, tp, td) => [(l0, listOf vs.toArray n), (x, instObj 182 d), (d, (dictOf [{ hash := PyData.keyHash w.params (Str.ofString "data"), key := .str (Str.ofString "data") k1, val := .bytes b t }, { hash := PyData.keyHash w.params (Str.ofString "at"), key := .str (Str.ofString "at") k2, val := .int pl tp }, { hash := PyData.keyHash w.params (Str.ofString "end"), key := .str (Str.ofString "end") k3, val := .int (E.length : Int) t3 }] 3))])
    (fun (vs, ns, n, pl, dd, tp, td) => [(Str.ofString "depth", .int dd td)]) (fun (vs, ns, n, pl, dd, tp, td) => IntsAre vs ns) [Str.ofString "code"]
    (fun (vs, ns, n, pl, dd, tp, td) => Reading ks ns pl dd ∧ 0 < dd) (fun (vs, ns, n, pl, dd, tp, td) => ((lit ks).length + 1 - pl).toNat) ([], [], 0, 1, 1, _, _) F1 N1 .nil (by kst_all) ⟨read_start ks, by decide⟩ ?_)
  rintro ⟨vs, ns, n, pl, dd, tp, td⟩ u h tk f1 ⟨g, g0⟩ F2 N2
  clear F1 N1
  dsimp only [kstB] at F2
  try dsimp only at f1 N2 g g0
  obtain ⟨r1, r2, r3, r4, rc⟩ := read_lex hE'.out g g0
  have hz2 : ns.length ≤ 100 := by omega
  have hz : vs.length ≤ 100 := by rw [f1.length]; exact hz2
  clear g
  have hin1 : ns = ks → KBa.In ns := fun e => by rw [e]; exact hin
  have hin' := Hold.go hin1
  clear hin1 hin
  have l3 : x < l0 ∧ d < l0 := l1
  k_with "MINE names" => (intro z h2 h3; have e1 := h2 _ (.head _); dsimp only at e1; have e3 : z ≠ Str.ofString "code" := fun e => by { subst e; exact absurd h3 (by decide) }; simp only [if_neg e1, if_neg e3, h3, Bool.false_eq_true, if_false])
  have p0 : E.getD (pl + 0).toNat 0 = E.getD pl.toNat 0 := by rw [Int.add_zero]
  have p1 : E.getD (pl + 1 + 0).toNat 0 = E.getD (pl + 1).toNat 0 := by rw [Int.add_zero]
  have hEl3 : E.length ≤ 300 := by omega
  have l4 : l0 ∉ [x, d] := fun hm => by
    rcases List.mem_cons.mp hm with e | hm
    · exact absurd e (Nat.ne_of_gt l1.1)
    · exact absurd (List.mem_singleton.mp hm) (Nat.ne_of_gt l1.2)
  rcases rc with ⟨q1, q2, q3⟩ | ⟨q2, q3, q4⟩ | ⟨q2, q6, q3, q4, q5⟩
  · rcases q3 with ⟨q3, q4⟩ | ⟨q3, q4⟩
    · have q4' := Hold.go q4
      clear q4
      k_with "MINE call" => ((with_reducible show wpAny _ _ (call (Value.ref 389) _) _ _ _); k_dflt (refine' (esc_codes_t (E := E) (pl := pl + 1) hb hEl3 hxd (by omega) (by omega) (.inl q3)).use [(l0, listOf vs.toArray n)] ?uB ?uF ?uX ?uN ?uT ?uk ?ud ?uu ?us ?ur ?uo ?_; ((case uB => k_asm); (case uF => k_asm); (case uX => k_asm); (case uN => k_asm); (case uT => k_asm); (case uk => first | exact rfl | assumption); (case ud => omega); (case uu => omega)); (case us => kcf_all); (case ur => kcf_all); (case uo => (intro p hp; cases List.mem_singleton.mp hp; exact l4)); rintro r h8 tk8 n8 F8 N8 off8 ⟨a8, v8, tv8, t8, c8, rfl, rfl, ev8⟩; simp only [List.cons_append, List.nil_append] at N8; have e8 : @Ne Nat a8 l0 := off8 (a8, _) (List.Mem.head _) (l0, _) (List.Mem.head _); clear off8; rw [if_pos q3] at ev8; subst ev8))
      k_with "MINE close" => (
        refine Hold.go ?_
        (have h9 := q4'.out)
        (rename News _ _ _ _ => N9)
        (refine' ksw_end ⟨vs ++ [.int 13 _], ns ++ [13], _, _, _, _, _⟩ (by assumption) N9 ?hn ?hf ?hk ?hr ?hp ?hm)
        (case hk => kst_all)
        (case hn => kcf_all)
        (case hf => exact f1.append (.cons _ _ .nil))
        (case hr => k_extra "MINE names")
        (case hp => (dsimp only; refine ⟨?_, g0⟩; (have e9 : ∀ z : Int, z = pl + 2 → Reading ks (ns ++ [13]) z dd := fun z hz => by { rw [hz]; exact h9 }); exact e9 _ (by omega)))
        (case hm => (dsimp only; omega)))
      k_steps
      all_goals k_extra "MINE close"
    · have q4' := Hold.go q4
      clear q4
      k_with "MINE call" => ((with_reducible show wpAny _ _ (call (Value.ref 389) _) _ _ _); k_dflt (refine' (esc_codes_t (E := E) (pl := pl + 1) hb hEl3 hxd (by omega) (by omega) (.inr q3)).use [(l0, listOf vs.toArray n)] ?uB ?uF ?uX ?uN ?uT ?uk ?ud ?uu ?us ?ur ?uo ?_; ((case uB => k_asm); (case uF => k_asm); (case uX => k_asm); (case uN => k_asm); (case uT => k_asm); (case uk => first | exact rfl | assumption); (case ud => omega); (case uu => omega)); (case us => kcf_all); (case ur => kcf_all); (case uo => (intro p hp; cases List.mem_singleton.mp hp; exact l4)); rintro r h8 tk8 n8 F8 N8 off8 ⟨a8, v8, tv8, t8, c8, rfl, rfl, ev8⟩; simp only [List.cons_append, List.nil_append] at N8; have e8 : @Ne Nat a8 l0 := off8 (a8, _) (List.Mem.head _) (l0, _) (List.Mem.head _); clear off8; rw [if_neg (by omega)] at ev8; subst ev8))
      k_with "MINE close" => (
        refine Hold.go ?_
        (have h9 := q4'.out)
        (rename News _ _ _ _ => N9)
        (refine' ksw_end ⟨vs ++ [.int (E.getD (pl + 1).toNat 0) _], ns ++ [(E.getD (pl + 1).toNat 0)], _, _, _, _, _⟩ (by assumption) N9 ?hn ?hf ?hk ?hr ?hp ?hm)
        (case hk => kst_all)
        (case hn => kcf_all)
        (case hf => exact f1.append (.cons _ _ .nil))
        (case hr => k_extra "MINE names")
        (case hp => (dsimp only; refine ⟨?_, g0⟩; (have e9 : ∀ z : Int, z = pl + 2 → Reading ks (ns ++ [(E.getD (pl + 1).toNat 0)]) z dd := fun z hz => by { rw [hz]; exact h9 }); exact e9 _ (by omega)))
        (case hm => (dsimp only; omega)))
      k_steps
      all_goals k_extra "MINE close"
  · have hin2 : KBa.In ns := hin'.out q4
    k_with "MINE tobytes" => (k_dflt (refine' to_bytes ?F ?N rfl (List.Mem.head _) rfl ?i hin2 ?z ?_; (case F => k_asm); (case N => k_asm); (case i => exact f1); (case z => omega); intro h9 t9 k9 x9 F9 N9 e9))
    k_steps
    exact hret _ _ _ _ [] (by assumption) (fun _ h => nomatch h) ⟨_, _, rfl, rfl, by rw [e9, q4]⟩
  · have q4' := Hold.go q4
    clear q4
    k_with "MINE close" => (
      refine Hold.go ?_
      (first
        | (exfalso; omega)
        | (have e10 : E.getD pl.toNat 0 = 10 := by omega
           have h9 := q4'.out
           rw [e10] at h9
           (rename News _ _ _ _ => N9)
           (simp only [List.push_toArray] at N9)
           (refine' ksw_end ⟨vs ++ [.int 10 _], ns ++ [10], _, _, _, _, _⟩ (by assumption) N9 ?hn ?hf ?hk ?hr ?hp ?hm)
           (case hk => kst_all)
           (case hn => kcf_all)
           (case hf => exact f1.append (.cons _ _ .nil))
           (case hr => k_extra "MINE names")
           (case hp => (dsimp only; have hw : dd + w1 10 = dd := by { show dd + 0 = dd; omega }; rw [hw] at h9; exact ⟨h9, g0⟩))
           (case hm => (dsimp only; omega)))
        | (have h9 := q4'.out
           have hw := w1_cases (E.getD pl.toNat 0)
           (rename News _ _ _ _ => N9)
           (simp only [List.push_toArray] at N9)
           (refine' ksw_end ⟨vs ++ [.int (E.getD pl.toNat 0) _], ns ++ [E.getD pl.toNat 0], _, _, _, _, _⟩ (by assumption) N9 ?hn ?hf ?hk ?hr ?hp ?hm)
           (case hk => kst_all)
           (case hn => kcf_all)
           (case hf => exact f1.append (.cons _ _ .nil))
           (case hr => k_extra "MINE names")
           (case hp => (dsimp only; refine ⟨?_, by omega⟩; (have e9 : ∀ x : Int, x = dd + w1 (E.getD pl.toNat 0) → Reading ks (ns ++ [E.getD pl.toNat 0]) (pl + 1) x := fun x hx => by { rw [hx]; exact h9 }); exact e9 _ (by omega)))
           (case hm => (dsimp only; omega)))))
    k_steps
    all_goals k_extra "MINE close"

set_option maxHeartbeats 900000 in
theorem hex_string_t {w : World} {b : Array UInt8} {t k1 k2 k3 t2 t3 : Tok} {x d : Addr} {ks E : List Int} (hb : KBw.bInts b = E) (hE : 32 :: 60 :: (hexB ks ++ [62]) = E) (hl : ks.length ≤ 100) (hin : ∀ k ∈ ks, 0 ≤ k ∧ k < 256) (hxd : @Ne Nat x d) :
   Contract w 20 401 [.ref x] [(x, instObj 182 d), (d, (dictOf [{ hash := PyData.keyHash w.params (Str.ofString "data"), key := .str (Str.ofString "data") k1, val := .bytes b t }, { hash := PyData.keyHash w.params (Str.ofString "at"), key := .str (Str.ofString "at") k2, val := .int 2 t2 }, { hash := PyData.keyHash w.params (Str.ofString "end"), key := .str (Str.ofString "end") k3, val := .int (E.length : Int) t3 }] 3))] (fun r n => ∃ y ty, r = .bytes y ty ∧ n = [] ∧ KBw.bInts y = ks) := by
  k_with_none
  k_with "MINE w:callWith" => ((with_reducible show wpAny _ _ (callWith _ (Value.builtin _) (_ :: _) (backTo _ (starEach (_ :: _) _)) _) _ _ _); k_dflt (refine callWith_method1 ?_))
  k_with "MINE w:compareOp NotEq ref ref" => (k_here; (with_reducible show wpAny _ _ (compareOp CmpOp.NotEq (Value.ref _) (Value.ref _)) _ _ _); k_dflt (first
  | (refine' ne_tup2 ?w8N ?w8a ?w8b ?w8u ?w8e1 ?w8e2 ?_; (case w8N => k_asm); (case w8a => k_mem); (case w8b => k_mem); (case w8u => units_room); (case w8e1 => first | exact at_bytes (by assumption) (by assumption) | exact at_int (by first | rfl | omega) | exact at_str (by rfl)); (case w8e2 => first | exact at_bytes (by assumption) (by assumption) | exact at_int (by first | rfl | omega) | exact at_str (by rfl)); k_whole)
  | (refine' ne_tup3 ?w8N ?w8a ?w8b ?w8u ?w8e1 ?w8e2 ?w8e3 ?_; (case w8N => k_asm); (case w8a => k_mem); (case w8b => k_mem); (case w8u => units_room); (case w8e1 => first | exact at_bytes (by assumption) (by assumption) | exact at_int (by first | rfl | omega) | exact at_str (by rfl)); (case w8e2 => first | exact at_bytes (by assumption) (by assumption) | exact at_int (by first | rfl | omega) | exact at_str (by rfl)); (case w8e3 => first | exact at_bytes (by assumption) (by assumption) | exact at_int (by first | rfl | omega) | exact at_str (by rfl)); k_whole)))
  k_with "MINE w:compareOp NotEq bytes bytes" => (k_here; (with_reducible show wpAny _ _ (compareOp CmpOp.NotEq (Value.bytes _ _) (Value.bytes _ _)) _ _ _); k_dflt (refine' ne_bytes_same ?w8b ?w8c ?w8e ?_; (case w8b => first | assumption | rfl | exact KBw.ints_app (by assumption) (by first | assumption | rfl) | exact KBw.ints_app (by rfl) (by assumption)); (case w8c => first | assumption | rfl | exact KBw.ints_app (by assumption) (by first | assumption | rfl) | exact KBw.ints_app (by rfl) (by assumption)); (case w8e => first | rfl | exact lit_first _ | k_extra "MINE same"); k_whole))
  k_with "MINE w:compareOp Eq bytes bytes" => (k_here; (with_reducible show wpAny _ _ (compareOp CmpOp.Eq (Value.bytes _ _) (Value.bytes _ _)) _ _ _); k_dflt (refine' eq_bytes_same ?w8b ?w8c ?w8e ?_; (case w8b => first | assumption | rfl | exact KBw.ints_app (by assumption) (by first | assumption | rfl) | exact KBw.ints_app (by rfl) (by assumption)); (case w8c => first | assumption | rfl | exact KBw.ints_app (by assumption) (by first | assumption | rfl) | exact KBw.ints_app (by rfl) (by assumption)); (case w8e => first | rfl | exact lit_first _ | k_extra "MINE same"); k_whole))
  k_with "MINE while" => refine hold_of ?_
  k_with "MINE ite" => (k_dflt (first | refine ite_pos (decide_eq_true (by omega)) ?_ | refine ite_neg (fun h => absurd (of_decide_eq_true h) (by omega)) ?_))
  k_with "MINE end" => refine hold_of ?_
  have hE' := Hold.go hE
  clear hE
  (have fillNow : PySem.Challenge.rw_og0184_01.row.prog = PySem.Challenge.rw_og0184_01.row.prog ∧ hd.heap_39 = hd.heap_39 := (by (k_fill; exact ⟨rfl, rfl⟩)); clear fillNow)
  refine' contract_cell [(Str.ofString "cursor", .ref x)] ?ho ?hcd ?hb ?hki ?hnd ?h1 ?h2 ?h3 ?_
  (case ho => k_is); (case hcd => k_is); (case hb => intro s hX; exact BindsTo.of_eq rfl); (case hki => intro n y hy; cases List.mem_singleton.mp hy; exact .inl rfl); (case hnd => decide); (case h1 => exact rfl); (case h2 => exact rfl); (case h3 => exact rfl); k_whole
  unfold BodyC
  intro mean mg mb dp un gd outer A₀ base h₀ L s Q cells B X T F N hC hd hu hret hnone
  obtain ⟨oh, rfl, hoh⟩ := CellsAre.one (show CellsAre _ [(Str.ofString "halves", L + 1)] cells from hC)
  clear hC
  replace hoh : oh.data = .cell none := hoh
  replace F : Fr h₀ L s.heap (fun y => if y = Str.ofString "cursor" then some (.ref x) else none) := F
  simp only [List.cons_append, List.nil_append] at N
  have n1 : @Ne Nat (L + 1) x := fun e => by
    have a := (N (L + 1, oh) (.head _)).1
    have b := (N _ (.tail _ (.head _))).1
    dsimp only at a b
    rw [show (L + 1 : Addr) = x from e, b] at a
    cases a; cases hoh
  have n2 : @Ne Nat (L + 1) d := fun e => by
    have a := (N (L + 1, oh) (.head _)).1
    have b := (N _ (.tail _ (.tail _ (.head _)))).1
    dsimp only at a b
    rw [show (L + 1 : Addr) = d from e, b] at a
    cases a; cases hoh
  change wpAny _ (ktrTop dp un gd (Str.ofString "hex_string") _ L 401 _ [(Str.ofString "halves", L + 1)] outer) (execs _ (envX _ _ L _ _ [(Str.ofString "halves", L + 1)])) _ _ _
  k_fill; have kMark := kstMark
  k_steps
  rename_i l0 h1 l1 h2 o0 F1 N1 d0
  refine Hold.go (ksw_while (σ := List Value × List Int × Nat × Int × Tok) (fun (vs, ns, n, pl, tp) => [(l0, listOf vs.toArray n), (L + 1, o0), (x, instObj 182 d), (d, (dictOf [{ hash := PyData.keyHash w.params (Str.ofString "data"), key := .str (Str.ofString "data") k1, val := .bytes b t }, { hash := PyData.keyHash w.params (Str.ofString "at"), key := .str (Str.ofString "at") k2, val := .int pl tp }, { hash := PyData.keyHash w.params (Str.ofString "end"), key := .str (Str.ofString "end") k3, val := .int (E.length : Int) t3 }] 3))])
    (fun (vs, ns, n, pl, tp) => []) (fun (vs, ns, n, pl, tp) => IntsAre vs ns) [Str.ofString "code", Str.ofString "worth"]
    (fun (vs, ns, n, pl, tp) => HexAt ks ns pl) (fun (vs, ns, n, pl, tp) => (E.length - pl).toNat) ([], [], 0, 2, _) F1 N1 .nil (by kst_all) (hex_start ks) ?_)
  rintro ⟨vs, ns, n, pl, tp⟩ u h tk f1 g F2 N2
  clear F1 N1
  dsimp only [kstB] at F2
  try dsimp only at f1 N2 g
  obtain ⟨r1, r2, r3, r4, r5, rc⟩ := hex_cases hE'.out hin g
  have hz : vs.length ≤ 200 := by rw [f1.length]; omega
  have hvn : vs.length = ns.length := f1.length
  clear g
  have l3 : x < l0 ∧ d < l0 ∧ L + 1 < l0 := ⟨l1.2.1, l1.2.2, l1.1⟩
  k_with "MINE names" => (intro z h2 h3; have e3 : z ≠ Str.ofString "code" := fun e => by { subst e; exact absurd h3 (by decide) }; have e4 : z ≠ Str.ofString "worth" := fun e => by { subst e; exact absurd h3 (by decide) }; simp only [if_neg e3, if_neg e4, h3, Bool.false_eq_true, if_false])
  have hmod := even2 (n := ks.length) (l := ns.length)
  rcases rc with ⟨q1, q2, q3⟩ | ⟨q1, q2, q3⟩ | ⟨q1, q2, q3⟩
  · have q4' := Hold.go q3
    clear q3 hmod
    k_with "MINE close" => (
      refine Hold.go ?_
      (have h9 := q4'.out)
      (rename News _ _ _ _ => N9)
      (simp only [List.push_toArray] at N9)
      (refine' ksw_end ⟨vs ++ [.int (E.getD pl.toNat 0 - 48) _], ns ++ [E.getD pl.toNat 0 - 48], _, _, _⟩ (by assumption) N9 ?hn ?hf ?hk ?hr ?hp ?hm)
      (case hk => kst_all)
      (case hn => kcf_all)
      (case hf => exact f1.append (.cons _ _ .nil))
      (case hr => k_extra "MINE names")
      (case hp => exact h9)
      (case hm => (dsimp only; omega)))
    k_steps
    all_goals k_extra "MINE close"
  · have q4' := Hold.go q3
    clear q3 hmod
    k_with "MINE close" => (
      refine Hold.go ?_
      (have h9 := q4'.out)
      (rename News _ _ _ _ => N9)
      (simp only [List.push_toArray] at N9)
      (refine' ksw_end ⟨vs ++ [.int (E.getD pl.toNat 0 - 55) _], ns ++ [E.getD pl.toNat 0 - 55], _, _, _⟩ (by assumption) N9 ?hn ?hf ?hk ?hr ?hp ?hm)
      (case hk => kst_all)
      (case hn => kcf_all)
      (case hf => exact f1.append (.cons _ _ .nil))
      (case hr => k_extra "MINE names")
      (case hp => exact h9)
      (case hm => (dsimp only; omega)))
    k_steps
    all_goals k_extra "MINE close"
  · replace hmod := hmod q3
    have hbk : (evens 0 ks.length).map (fun k => 16 * ns.getD k.toNat 0 + ns.getD (k + 1).toNat 0) = ks := by rw [q2]; exact halves_back ks
    have hin2 : KBa.In ((evens 0 ks.length).map (fun k => 16 * ns.getD k.toNat 0 + ns.getD (k + 1).toNat 0)) := by rw [hbk]; exact hin
    have hbl : ((evens 0 ks.length).map (fun k => 16 * ns.getD k.toNat 0 + ns.getD (k + 1).toNat 0)).length = ks.length := by rw [hbk]
    have hbk' := Hold.go hbk
    clear q2 hbk
    k_with "MINE tobytes" => (k_dflt (refine' to_bytes ?F ?N rfl (List.Mem.head _) rfl ?i hin2 ?z ?_; (case F => k_asm); (case N => k_asm); (case i => assumption); (case z => omega); intro h9 t9 k9 x9 F9 N9 e9))
    k_with "MINE comp" => (k_here; k_dflt (refine ListComp_UR (F₀ := by k_asm) (by with_unfolding_all rfl) (by decide) (by rfl) (by decide) (by rfl) ?_))
    k_with "MINE src" => (k_dflt (refine' src_even (n := ks.length) (fun k => 16 * ns.getD k.toNat 0 + ns.getD (k + 1).toNat 0) (by rfl) (by k_asm) (by k_asm) (by assumption) (small2 q3 (by omega)) (size2 q3) (by rw [PySem.sizeLine_eq]; omega) (fun g' k' t' I' oI' C' oC' D' m' ys' h' tk' E' hk' hI' hx' F' N' off' ne' => ?turn) (fun g' => ?_)); (all_goals (try (simp only [LCg.Off3, and_true] at off'))); (all_goals (try ((show KPfMark → _); intro hMark'; obtain ⟨i', hi', hki'⟩ := evens_in hk'; clear hk'))))
    k_steps
    exact hret _ _ _ _ [] (by assumption) (fun _ h => nomatch h) ⟨_, _, rfl, rfl, by rw [e9]; exact hbk'.out⟩

theorem literal_u {w : World} {b : Array UInt8} {t k1 k2 k3 t2 t3 : Tok} {x d : Addr} {ks E : List Int} (hb : KBw.bInts b = E) (hE : lit ks ++ [55] = E) (hl : ks.length ≤ 100) (hin : ∀ k ∈ ks, 0 ≤ k ∧ k < 256) (hxd : @Ne Nat x d) {pl : Int} (hpl : pl = 1) :
   Contract w 20 396 [.ref x] [(x, instObj 182 d), (d, (dictOf [{ hash := PyData.keyHash w.params (Str.ofString "data"), key := .str (Str.ofString "data") k1, val := .bytes b t }, { hash := PyData.keyHash w.params (Str.ofString "at"), key := .str (Str.ofString "at") k2, val := .int pl t2 }, { hash := PyData.keyHash w.params (Str.ofString "end"), key := .str (Str.ofString "end") k3, val := .int (E.length : Int) t3 }] 3))] (fun r n => ∃ y ty, r = .bytes y ty ∧ n = [] ∧ KBw.bInts y = ks) := by
  have e : E.length = (lit ks).length + 1 := by rw [← hE]; simp
  rw [e, hpl]
  exact literal_t (hE ▸ hb) hl hin hxd
set_option maxHeartbeats 900000 in
theorem delim_lit_t {w : World} {b : Array UInt8} {t k1 k2 k3 t2 t3 tc ta : Tok} {x d : Addr} {ks E : List Int} (hb : KBw.bInts b = E) (hE : lit ks ++ [55] = E) (hl : ks.length ≤ 100) (hin : ∀ k ∈ ks, 0 ≤ k ∧ k < 256) (hxd : @Ne Nat x d) {pl : Int} (hpl : pl = 0) :
   Contract w 24 415 [.ref x, .int 40 tc, .int pl ta] [(x, instObj 182 d), (d, (dictOf [{ hash := PyData.keyHash w.params (Str.ofString "data"), key := .str (Str.ofString "data") k1, val := .bytes b t }, { hash := PyData.keyHash w.params (Str.ofString "at"), key := .str (Str.ofString "at") k2, val := .int pl t2 }, { hash := PyData.keyHash w.params (Str.ofString "end"), key := .str (Str.ofString "end") k3, val := .int (E.length : Int) t3 }] 3))] (fun r n => ∃ a y ts ty ti, r = .ref a ∧ n = [(a, { cls := .type "tuple", data := .seq #[.str (Str.ofString "string") ts, .bytes y ty, .int pl ti] })] ∧ KBw.bInts y = ks) := by
  k_with_none
  k_with "MINE w:callWith" => ((with_reducible show wpAny _ _ (callWith _ (Value.builtin _) (_ :: _) (backTo _ (starEach (_ :: _) _)) _) _ _ _); k_dflt (refine callWith_method1 ?_))
  k_with "MINE w:compareOp NotEq ref ref" => (k_here; (with_reducible show wpAny _ _ (compareOp CmpOp.NotEq (Value.ref _) (Value.ref _)) _ _ _); k_dflt (first
  | (refine' ne_tup2 ?w8N ?w8a ?w8b ?w8u ?w8e1 ?w8e2 ?_; (case w8N => k_asm); (case w8a => k_mem); (case w8b => k_mem); (case w8u => units_room); (case w8e1 => first | exact at_bytes (by assumption) (by assumption) | exact at_int (by first | rfl | omega) | exact at_str (by rfl)); (case w8e2 => first | exact at_bytes (by assumption) (by assumption) | exact at_int (by first | rfl | omega) | exact at_str (by rfl)); k_whole)
  | (refine' ne_tup3 ?w8N ?w8a ?w8b ?w8u ?w8e1 ?w8e2 ?w8e3 ?_; (case w8N => k_asm); (case w8a => k_mem); (case w8b => k_mem); (case w8u => units_room); (case w8e1 => first | exact at_bytes (by assumption) (by assumption) | exact at_int (by first | rfl | omega) | exact at_str (by rfl)); (case w8e2 => first | exact at_bytes (by assumption) (by assumption) | exact at_int (by first | rfl | omega) | exact at_str (by rfl)); (case w8e3 => first | exact at_bytes (by assumption) (by assumption) | exact at_int (by first | rfl | omega) | exact at_str (by rfl)); k_whole)))
  k_with "MINE w:compareOp NotEq bytes bytes" => (k_here; (with_reducible show wpAny _ _ (compareOp CmpOp.NotEq (Value.bytes _ _) (Value.bytes _ _)) _ _ _); k_dflt (refine' ne_bytes_same ?w8b ?w8c ?w8e ?_; (case w8b => first | assumption | rfl | exact KBw.ints_app (by assumption) (by first | assumption | rfl) | exact KBw.ints_app (by rfl) (by assumption)); (case w8c => first | assumption | rfl | exact KBw.ints_app (by assumption) (by first | assumption | rfl) | exact KBw.ints_app (by rfl) (by assumption)); (case w8e => first | rfl | exact lit_first _ | k_extra "MINE same"); k_whole))
  k_with "MINE w:compareOp Eq bytes bytes" => (k_here; (with_reducible show wpAny _ _ (compareOp CmpOp.Eq (Value.bytes _ _) (Value.bytes _ _)) _ _ _); k_dflt (refine' eq_bytes_same ?w8b ?w8c ?w8e ?_; (case w8b => first | assumption | rfl | exact KBw.ints_app (by assumption) (by first | assumption | rfl) | exact KBw.ints_app (by rfl) (by assumption)); (case w8c => first | assumption | rfl | exact KBw.ints_app (by assumption) (by first | assumption | rfl) | exact KBw.ints_app (by rfl) (by assumption)); (case w8e => first | rfl | exact lit_first _ | k_extra "MINE same"); k_whole))
  k_with "MINE ite" => (k_dflt (first | refine ite_pos (decide_eq_true (by omega)) ?_ | refine ite_neg (fun h => absurd (of_decide_eq_true h) (by omega)) ?_))
  have hEl : 0 < E.length := by rw [← hE]; simp
  have hEz : E.length ≤ 300 := by have := lit_length ks; rw [← hE]; simp; omega
  have r1 : 0 ≤ pl := by omega
  have r2 : pl < E.length := by omega
  have hE' := Hold.go hE
  clear hE
  k_with "MINE call" => ((with_reducible show wpAny _ _ (call (Value.ref 396) _) _ _ _); k_dflt (refine' (literal_u (E := E) (ks := ks) hb hE'.out hl hin hxd (pl := pl + 1) (by omega)).use [] ?uB ?uF ?uX ?uN ?uT ?uk ?ud ?uu ?us ?ur ?uo ?_; ((case uB => k_asm); (case uF => k_asm); (case uX => k_asm); (case uN => k_asm); (case uT => k_asm); (case uk => first | exact rfl | assumption); (case ud => omega); (case uu => omega)); (case us => kcf_all); (case ur => exact fun _ h => nomatch h); (case uo => exact fun _ h => nomatch h); rintro r h8 tk8 n8 F8 N8 off8 ⟨y8, ty8, rfl, rfl, e8⟩; simp only [List.nil_append] at N8; clear off8))
  (have fillNow : PySem.Challenge.rw_og0184_01.row.prog = PySem.Challenge.rw_og0184_01.row.prog ∧ hd.heap_39 = hd.heap_39 := (by (k_fill; exact ⟨rfl, rfl⟩)); clear fillNow)
  refine' contract_of [(Str.ofString "cursor", .ref x), (Str.ofString "code", .int 40 tc), (Str.ofString "at", .int pl ta)] ?ho ?hcd ?hb ?hl ?h1 ?h2 ?h3 ?h4 ?_
  ((case ho => k_is); (case hcd => k_is); (case hb => intro s hX; exact BindsTo.of_eq rfl); (case hl => exact locs rfl); (case h1 => exact rfl); (case h2 => exact rfl); (case h3 => exact rfl); (case h4 => decide); k_whole; unfold Body)
  intro mean mg mb dp un gd outer A₀ base h₀ L s Q B X T F N hd hu hret hnone; k_fill; have kMark := kstMark
  k_steps
  rename News _ _ _ _ => N9
  exact hret _ _ _ _ _ (by assumption) N9 ⟨_, _, _, _, _, rfl, rfl, e8⟩

theorem hex_string_u {w : World} {b : Array UInt8} {t k1 k2 k3 t2 t3 : Tok} {x d : Addr} {ks E : List Int} (hb : KBw.bInts b = E) (hE : 32 :: 60 :: (hexB ks ++ [62]) = E) (hl : ks.length ≤ 100) (hin : ∀ k ∈ ks, 0 ≤ k ∧ k < 256) (hxd : @Ne Nat x d) {pl : Int} (hpl : pl = 2) :
   Contract w 20 401 [.ref x] [(x, instObj 182 d), (d, (dictOf [{ hash := PyData.keyHash w.params (Str.ofString "data"), key := .str (Str.ofString "data") k1, val := .bytes b t }, { hash := PyData.keyHash w.params (Str.ofString "at"), key := .str (Str.ofString "at") k2, val := .int pl t2 }, { hash := PyData.keyHash w.params (Str.ofString "end"), key := .str (Str.ofString "end") k3, val := .int (E.length : Int) t3 }] 3))] (fun r n => ∃ y ty, r = .bytes y ty ∧ n = [] ∧ KBw.bInts y = ks) := by
  rw [hpl]
  exact hex_string_t hb hE hl hin hxd
theorem hexE_at {ks E : List Int} (hE : 32 :: 60 :: (hexB ks ++ [62]) = E) (hin : ∀ k ∈ ks, 0 ≤ k ∧ k < 256) : E.length = 2 * ks.length + 3 ∧ E.getD 0 0 = 32 ∧ E.getD 1 0 = 60 ∧ E.getD 2 0 ≠ 60 := by
  have h := hex_cases hE hin (hex_start ks)
  refine ⟨h.2.2.1, by rw [← hE]; rfl, by rw [← hE]; rfl, ?_⟩
  have h9 := h.2.2.2.2.2
  have e : E.getD 2 0 = E.getD (2 : Int).toNat 0 := rfl
  rw [e]
  rcases h9 with h9 | h9 | h9 <;> omega
theorem two_not {p : Array UInt8} {E : List Int} {i m : Nat} {u v : UInt8} (h : KBw.bInts p = (E.drop i).take m) (e : (p.toList == [u, v]) = true) : E.getD i 0 = u.toNat ∧ E.getD (i + 1) 0 = v.toNat := by
  have e1 : p.toList = [u, v] := by simpa using e
  have e2 : KBw.bInts p = [(u.toNat : Int), (v.toNat : Int)] := by
    unfold KBw.bInts
    rw [e1]; rfl
  rw [e2] at h
  have h0 : ((E.drop i).take m)[0]? = some (u.toNat : Int) := by rw [← h]; rfl
  have h1 : ((E.drop i).take m)[1]? = some (v.toNat : Int) := by rw [← h]; rfl
  rw [List.getElem?_take] at h0 h1
  split at h0
  · split at h1
    · rw [List.getElem?_drop] at h0 h1
      rw [List.getD_eq_getElem?_getD, List.getD_eq_getElem?_getD]
      rw [Nat.add_zero] at h0
      rw [h0, h1]; exact ⟨rfl, rfl⟩
    · cases h1
  · cases h0
theorem clip_one {n : Nat} {pl : Int} (h : pl = 1) (hn : 1 ≤ n) : clipAt n pl = 1 := by
  subst h
  unfold clipAt
  simp
  omega
set_option maxHeartbeats 900000 in
theorem delim_hex_t {w : World} {b : Array UInt8} {t k1 k2 k3 t2 t3 tc ta : Tok} {x d : Addr} {ks E : List Int} (hb : KBw.bInts b = E) (hE : 32 :: 60 :: (hexB ks ++ [62]) = E) (hl : ks.length ≤ 100) (hin : ∀ k ∈ ks, 0 ≤ k ∧ k < 256) (hxd : @Ne Nat x d) {pl : Int} (hpl : pl = 1) :
   Contract w 24 415 [.ref x, .int 60 tc, .int pl ta] [(x, instObj 182 d), (d, (dictOf [{ hash := PyData.keyHash w.params (Str.ofString "data"), key := .str (Str.ofString "data") k1, val := .bytes b t }, { hash := PyData.keyHash w.params (Str.ofString "at"), key := .str (Str.ofString "at") k2, val := .int pl t2 }, { hash := PyData.keyHash w.params (Str.ofString "end"), key := .str (Str.ofString "end") k3, val := .int (E.length : Int) t3 }] 3))] (fun r n => ∃ a y ts ty ti, r = .ref a ∧ n = [(a, { cls := .type "tuple", data := .seq #[.str (Str.ofString "hex") ts, .bytes y ty, .int pl ti] })] ∧ KBw.bInts y = ks) := by
  k_with_none
  k_with "MINE w:callWith" => ((with_reducible show wpAny _ _ (callWith _ (Value.builtin _) (_ :: _) (backTo _ (starEach (_ :: _) _)) _) _ _ _); k_dflt (refine callWith_method1 ?_))
  k_with "MINE w:compareOp NotEq ref ref" => (k_here; (with_reducible show wpAny _ _ (compareOp CmpOp.NotEq (Value.ref _) (Value.ref _)) _ _ _); k_dflt (first
  | (refine' ne_tup2 ?w8N ?w8a ?w8b ?w8u ?w8e1 ?w8e2 ?_; (case w8N => k_asm); (case w8a => k_mem); (case w8b => k_mem); (case w8u => units_room); (case w8e1 => first | exact at_bytes (by assumption) (by assumption) | exact at_int (by first | rfl | omega) | exact at_str (by rfl)); (case w8e2 => first | exact at_bytes (by assumption) (by assumption) | exact at_int (by first | rfl | omega) | exact at_str (by rfl)); k_whole)
  | (refine' ne_tup3 ?w8N ?w8a ?w8b ?w8u ?w8e1 ?w8e2 ?w8e3 ?_; (case w8N => k_asm); (case w8a => k_mem); (case w8b => k_mem); (case w8u => units_room); (case w8e1 => first | exact at_bytes (by assumption) (by assumption) | exact at_int (by first | rfl | omega) | exact at_str (by rfl)); (case w8e2 => first | exact at_bytes (by assumption) (by assumption) | exact at_int (by first | rfl | omega) | exact at_str (by rfl)); (case w8e3 => first | exact at_bytes (by assumption) (by assumption) | exact at_int (by first | rfl | omega) | exact at_str (by rfl)); k_whole)))
  k_with "MINE w:compareOp NotEq bytes bytes" => (k_here; (with_reducible show wpAny _ _ (compareOp CmpOp.NotEq (Value.bytes _ _) (Value.bytes _ _)) _ _ _); k_dflt (refine' ne_bytes_same ?w8b ?w8c ?w8e ?_; (case w8b => first | assumption | rfl | exact KBw.ints_app (by assumption) (by first | assumption | rfl) | exact KBw.ints_app (by rfl) (by assumption)); (case w8c => first | assumption | rfl | exact KBw.ints_app (by assumption) (by first | assumption | rfl) | exact KBw.ints_app (by rfl) (by assumption)); (case w8e => first | rfl | exact lit_first _ | k_extra "MINE same"); k_whole))
  k_with "MINE w:compareOp Eq bytes bytes" => (k_here; (with_reducible show wpAny _ _ (compareOp CmpOp.Eq (Value.bytes _ _) (Value.bytes _ _)) _ _ _); k_dflt (refine' eq_bytes_same ?w8b ?w8c ?w8e ?_; (case w8b => first | assumption | rfl | exact KBw.ints_app (by assumption) (by first | assumption | rfl) | exact KBw.ints_app (by rfl) (by assumption)); (case w8c => first | assumption | rfl | exact KBw.ints_app (by assumption) (by first | assumption | rfl) | exact KBw.ints_app (by rfl) (by assumption)); (case w8e => first | rfl | exact lit_first _ | k_extra "MINE same"); k_whole))
  k_with "MINE ite" => (k_dflt (first | refine ite_pos (decide_eq_true (by omega)) ?_ | refine ite_neg (fun h => absurd (of_decide_eq_true h) (by omega)) ?_))
  obtain ⟨hEl, hE0, hE1, hE2⟩ := hexE_at hE hin
  have hEz : E.length ≤ 300 := by omega
  have r1 : 0 ≤ pl := by omega
  have r2 : pl < E.length := by omega
  have hs1 : ((#[60, 60] : Array UInt8).size : Int) = 2 := rfl
  have hs2 : ((#[62, 62] : Array UInt8).size : Int) = 2 := rfl
  have hE' := Hold.go hE
  clear hE
  k_with "MINE call" => ((with_reducible show wpAny _ _ (call (Value.ref 401) _) _ _ _); k_dflt (refine' (hex_string_u (E := E) (ks := ks) hb hE'.out hl hin hxd (pl := pl + 1) (by omega)).use [] ?uB ?uF ?uX ?uN ?uT ?uk ?ud ?uu ?us ?ur ?uo ?_; ((case uB => k_asm); (case uF => k_asm); (case uX => k_asm); (case uN => k_asm); (case uT => k_asm); (case uk => first | exact rfl | assumption); (case ud => omega); (case uu => omega)); (case us => kcf_all); (case ur => exact fun _ h => nomatch h); (case uo => exact fun _ h => nomatch h); rintro r h8 tk8 n8 F8 N8 off8 ⟨y8, ty8, rfl, rfl, e8⟩; simp only [List.nil_append] at N8; clear off8))
  (have fillNow : PySem.Challenge.rw_og0184_01.row.prog = PySem.Challenge.rw_og0184_01.row.prog ∧ hd.heap_39 = hd.heap_39 := (by (k_fill; exact ⟨rfl, rfl⟩)); clear fillNow)
  refine' contract_of [(Str.ofString "cursor", .ref x), (Str.ofString "code", .int 60 tc), (Str.ofString "at", .int pl ta)] ?ho ?hcd ?hb ?hl ?h1 ?h2 ?h3 ?h4 ?_
  ((case ho => k_is); (case hcd => k_is); (case hb => intro s hX; exact BindsTo.of_eq rfl); (case hl => exact locs rfl); (case h1 => exact rfl); (case h2 => exact rfl); (case h3 => exact rfl); (case h4 => decide); k_whole; unfold Body)
  intro mean mg mb dp un gd outer A₀ base h₀ L s Q B X T F N hd hu hret hnone; k_fill; have kMark := kstMark
  k_steps
  · (rename _ = true => h8; rename KBw.bInts _ = List.take _ _ => h9; rw [clip_one hpl (by omega)] at h9; have h7 := two_not h9 h8; exact absurd h7.2 hE2)
  · (rename _ = true => h8; rename KBw.bInts _ = List.take _ _ => h9; rw [clip_one hpl (by omega)] at h9; have h7 := two_not h9 h8; rw [hE1] at h7; exact absurd h7.1 (by decide))
  · rename News _ _ _ _ => N9
    exact hret _ _ _ _ _ (by assumption) N9 ⟨_, _, _, _, _, rfl, rfl, e8⟩

theorem delim_lit_u {w : World} {b : Array UInt8} {t k1 k2 k3 t2 t3 tc ta : Tok} {x d : Addr} {ks E : List Int} (hb : KBw.bInts b = E) (hE : lit ks ++ [55] = E) (hl : ks.length ≤ 100) (hin : ∀ k ∈ ks, 0 ≤ k ∧ k < 256) (hxd : @Ne Nat x d) {pl c : Int} (hpl : pl = 0) (hc : c = 40) :
   Contract w 24 415 [.ref x, .int c tc, .int pl ta] [(x, instObj 182 d), (d, (dictOf [{ hash := PyData.keyHash w.params (Str.ofString "data"), key := .str (Str.ofString "data") k1, val := .bytes b t }, { hash := PyData.keyHash w.params (Str.ofString "at"), key := .str (Str.ofString "at") k2, val := .int pl t2 }, { hash := PyData.keyHash w.params (Str.ofString "end"), key := .str (Str.ofString "end") k3, val := .int (E.length : Int) t3 }] 3))] (fun r n => ∃ a y ts ty ti, r = .ref a ∧ n = [(a, { cls := .type "tuple", data := .seq #[.str (Str.ofString "string") ts, .bytes y ty, .int 0 ti] })] ∧ KBw.bInts y = ks) := by
  subst hc
  refine (delim_lit_t hb hE hl hin hxd hpl).mono ?_
  subst hpl
  exact fun _ _ h => h
theorem litE_at {ks E : List Int} (hE : lit ks ++ [55] = E) : E.length = (lit ks).length + 1 ∧ E.getD 0 0 = 40 := by
  rw [← hE]
  exact ⟨by simp, rfl⟩
set_option maxHeartbeats 900000 in
theorem next_lit_t {w : World} {b : Array UInt8} {t k1 k2 k3 t2 t3 : Tok} {x d : Addr} {ks E : List Int} (hb : KBw.bInts b = E) (hE : lit ks ++ [55] = E) (hl : ks.length ≤ 100) (hin : ∀ k ∈ ks, 0 ≤ k ∧ k < 256) (hxd : @Ne Nat x d) {pl : Int} (hpl : pl = 0) :
   Contract w 28 422 [.ref x] [(x, instObj 182 d), (d, (dictOf [{ hash := PyData.keyHash w.params (Str.ofString "data"), key := .str (Str.ofString "data") k1, val := .bytes b t }, { hash := PyData.keyHash w.params (Str.ofString "at"), key := .str (Str.ofString "at") k2, val := .int pl t2 }, { hash := PyData.keyHash w.params (Str.ofString "end"), key := .str (Str.ofString "end") k3, val := .int (E.length : Int) t3 }] 3))] (fun r n => ∃ a y ts ty ti, r = .ref a ∧ n = [(a, { cls := .type "tuple", data := .seq #[.str (Str.ofString "string") ts, .bytes y ty, .int 0 ti] })] ∧ KBw.bInts y = ks) := by
  k_with_none
  k_with "MINE w:callWith" => ((with_reducible show wpAny _ _ (callWith _ (Value.builtin _) (_ :: _) (backTo _ (starEach (_ :: _) _)) _) _ _ _); k_dflt (refine callWith_method1 ?_))
  k_with "MINE w:compareOp NotEq ref ref" => (k_here; (with_reducible show wpAny _ _ (compareOp CmpOp.NotEq (Value.ref _) (Value.ref _)) _ _ _); k_dflt (first
  | (refine' ne_tup2 ?w8N ?w8a ?w8b ?w8u ?w8e1 ?w8e2 ?_; (case w8N => k_asm); (case w8a => k_mem); (case w8b => k_mem); (case w8u => units_room); (case w8e1 => first | exact at_bytes (by assumption) (by assumption) | exact at_int (by first | rfl | omega) | exact at_str (by rfl)); (case w8e2 => first | exact at_bytes (by assumption) (by assumption) | exact at_int (by first | rfl | omega) | exact at_str (by rfl)); k_whole)
  | (refine' ne_tup3 ?w8N ?w8a ?w8b ?w8u ?w8e1 ?w8e2 ?w8e3 ?_; (case w8N => k_asm); (case w8a => k_mem); (case w8b => k_mem); (case w8u => units_room); (case w8e1 => first | exact at_bytes (by assumption) (by assumption) | exact at_int (by first | rfl | omega) | exact at_str (by rfl)); (case w8e2 => first | exact at_bytes (by assumption) (by assumption) | exact at_int (by first | rfl | omega) | exact at_str (by rfl)); (case w8e3 => first | exact at_bytes (by assumption) (by assumption) | exact at_int (by first | rfl | omega) | exact at_str (by rfl)); k_whole)))
  k_with "MINE w:compareOp NotEq bytes bytes" => (k_here; (with_reducible show wpAny _ _ (compareOp CmpOp.NotEq (Value.bytes _ _) (Value.bytes _ _)) _ _ _); k_dflt (refine' ne_bytes_same ?w8b ?w8c ?w8e ?_; (case w8b => first | assumption | rfl | exact KBw.ints_app (by assumption) (by first | assumption | rfl) | exact KBw.ints_app (by rfl) (by assumption)); (case w8c => first | assumption | rfl | exact KBw.ints_app (by assumption) (by first | assumption | rfl) | exact KBw.ints_app (by rfl) (by assumption)); (case w8e => first | rfl | exact lit_first _ | k_extra "MINE same"); k_whole))
  k_with "MINE w:compareOp Eq bytes bytes" => (k_here; (with_reducible show wpAny _ _ (compareOp CmpOp.Eq (Value.bytes _ _) (Value.bytes _ _)) _ _ _); k_dflt (refine' eq_bytes_same ?w8b ?w8c ?w8e ?_; (case w8b => first | assumption | rfl | exact KBw.ints_app (by assumption) (by first | assumption | rfl) | exact KBw.ints_app (by rfl) (by assumption)); (case w8c => first | assumption | rfl | exact KBw.ints_app (by assumption) (by first | assumption | rfl) | exact KBw.ints_app (by rfl) (by assumption)); (case w8e => first | rfl | exact lit_first _ | k_extra "MINE same"); k_whole))
  k_with "MINE while" => refine hold_of ?_
  k_with "MINE ite" => (k_dflt (first | refine ite_pos (decide_eq_true (by omega)) ?_ | refine ite_neg (fun h => absurd (of_decide_eq_true h) (by omega)) ?_))
  k_with "MINE end" => refine hold_of ?_
  k_with "MINE in" => (k_here; k_dflt (refine' in_top (b := false) ?F ?X ?l ?i ?e ?_; (case F => k_asm); (case X => k_asm); (case l => k_is); (case i => (repeat constructor)); (case e => (rw [hEp]; decide)); k_whole))
  obtain ⟨hEl, hE0⟩ := litE_at hE
  have hEz : E.length ≤ 300 := by have := lit_length ks; omega
  have r1 : 0 ≤ pl := by omega
  have r2 : pl < E.length := by omega
  have hEp : E.getD pl.toNat 0 = 40 := by subst hpl; exact hE0
  have p0 : E.getD (pl + 0).toNat 0 = 40 := by rw [Int.add_zero]; exact hEp
  have hE' := Hold.go hE
  clear hE
  k_with "MINE call" => ((with_reducible show wpAny _ _ (call (Value.ref 415) _) _ _ _); k_dflt (refine' (delim_lit_u (E := E) (ks := ks) hb hE'.out hl hin hxd (pl := pl) hpl (by omega)).use [] ?uB ?uF ?uX ?uN ?uT ?uk ?ud ?uu ?us ?ur ?uo ?_; ((case uB => k_asm); (case uF => k_asm); (case uX => k_asm); (case uN => k_asm); (case uT => k_asm); (case uk => first | exact rfl | assumption); (case ud => omega); (case uu => omega)); (case us => kcf_all); (case ur => exact fun _ h => nomatch h); (case uo => exact fun _ h => nomatch h); rintro r h8 tk8 n8 F8 N8 off8 ⟨a8, y8, ts8, ty8, ti8, rfl, rfl, e8⟩; simp only [List.cons_append, List.nil_append] at N8; clear off8))
  (have fillNow : PySem.Challenge.rw_og0184_01.row.prog = PySem.Challenge.rw_og0184_01.row.prog ∧ hd.heap_39 = hd.heap_39 := (by (k_fill; exact ⟨rfl, rfl⟩)); clear fillNow)
  refine' contract_of [(Str.ofString "cursor", .ref x)] ?ho ?hcd ?hb ?hl ?h1 ?h2 ?h3 ?h4 ?_
  ((case ho => k_is); (case hcd => k_is); (case hb => intro s hX; exact BindsTo.of_eq rfl); (case hl => exact locs rfl); (case h1 => exact rfl); (case h2 => exact rfl); (case h3 => exact rfl); (case h4 => decide); k_whole; unfold Body)
  intro mean mg mb dp un gd outer A₀ base h₀ L s Q B X T F N hd hu hret hnone; k_fill; have kMark := kstMark
  k_steps
  refine Hold.go (ksw_while (σ := Unit) (fun _ => [(x, instObj 182 d), (d, (dictOf [{ hash := PyData.keyHash w.params (Str.ofString "data"), key := .str (Str.ofString "data") k1, val := .bytes b t }, { hash := PyData.keyHash w.params (Str.ofString "at"), key := .str (Str.ofString "at") k2, val := .int pl t2 }, { hash := PyData.keyHash w.params (Str.ofString "end"), key := .str (Str.ofString "end") k3, val := .int (E.length : Int) t3 }] 3))])
    (fun _ => []) (fun _ => True) [Str.ofString "code"] (fun _ => True) (fun _ => 0) () (by assumption) (by assumption) True.intro no_names True.intro ?_)
  rintro ⟨⟩ u h tk f1 g F2 N2
  dsimp only [kstB] at F2
  try dsimp only at N2
  k_steps
  exact hret _ _ _ _ _ (by assumption) N8 ⟨_, _, _, _, _, rfl, rfl, e8⟩

theorem delim_hex_u {w : World} {b : Array UInt8} {t k1 k2 k3 t2 t3 tc ta : Tok} {x d : Addr} {ks E : List Int} (hb : KBw.bInts b = E) (hE : 32 :: 60 :: (hexB ks ++ [62]) = E) (hl : ks.length ≤ 100) (hin : ∀ k ∈ ks, 0 ≤ k ∧ k < 256) (hxd : @Ne Nat x d) {pl c : Int} (hpl : pl = 1) (hc : c = 60) :
   Contract w 24 415 [.ref x, .int c tc, .int pl ta] [(x, instObj 182 d), (d, (dictOf [{ hash := PyData.keyHash w.params (Str.ofString "data"), key := .str (Str.ofString "data") k1, val := .bytes b t }, { hash := PyData.keyHash w.params (Str.ofString "at"), key := .str (Str.ofString "at") k2, val := .int pl t2 }, { hash := PyData.keyHash w.params (Str.ofString "end"), key := .str (Str.ofString "end") k3, val := .int (E.length : Int) t3 }] 3))] (fun r n => ∃ a y ts ty ti, r = .ref a ∧ n = [(a, { cls := .type "tuple", data := .seq #[.str (Str.ofString "hex") ts, .bytes y ty, .int 1 ti] })] ∧ KBw.bInts y = ks) := by
  subst hc
  refine (delim_hex_t hb hE hl hin hxd hpl).mono ?_
  subst hpl
  exact fun _ _ h => h
set_option maxHeartbeats 900000 in
theorem next_hex_t {w : World} {b : Array UInt8} {t k1 k2 k3 t2 t3 : Tok} {x d : Addr} {ks E : List Int} (hb : KBw.bInts b = E) (hE : 32 :: 60 :: (hexB ks ++ [62]) = E) (hl : ks.length ≤ 100) (hin : ∀ k ∈ ks, 0 ≤ k ∧ k < 256) (hxd : @Ne Nat x d) {p0 : Int} (hp0 : p0 = 0) :
   Contract w 28 422 [.ref x] [(x, instObj 182 d), (d, (dictOf [{ hash := PyData.keyHash w.params (Str.ofString "data"), key := .str (Str.ofString "data") k1, val := .bytes b t }, { hash := PyData.keyHash w.params (Str.ofString "at"), key := .str (Str.ofString "at") k2, val := .int p0 t2 }, { hash := PyData.keyHash w.params (Str.ofString "end"), key := .str (Str.ofString "end") k3, val := .int (E.length : Int) t3 }] 3))] (fun r n => ∃ a y ts ty ti, r = .ref a ∧ n = [(a, { cls := .type "tuple", data := .seq #[.str (Str.ofString "hex") ts, .bytes y ty, .int 1 ti] })] ∧ KBw.bInts y = ks) := by
  k_with_none
  k_with "MINE w:callWith" => ((with_reducible show wpAny _ _ (callWith _ (Value.builtin _) (_ :: _) (backTo _ (starEach (_ :: _) _)) _) _ _ _); k_dflt (refine callWith_method1 ?_))
  k_with "MINE w:compareOp NotEq ref ref" => (k_here; (with_reducible show wpAny _ _ (compareOp CmpOp.NotEq (Value.ref _) (Value.ref _)) _ _ _); k_dflt (first
  | (refine' ne_tup2 ?w8N ?w8a ?w8b ?w8u ?w8e1 ?w8e2 ?_; (case w8N => k_asm); (case w8a => k_mem); (case w8b => k_mem); (case w8u => units_room); (case w8e1 => first | exact at_bytes (by assumption) (by assumption) | exact at_int (by first | rfl | omega) | exact at_str (by rfl)); (case w8e2 => first | exact at_bytes (by assumption) (by assumption) | exact at_int (by first | rfl | omega) | exact at_str (by rfl)); k_whole)
  | (refine' ne_tup3 ?w8N ?w8a ?w8b ?w8u ?w8e1 ?w8e2 ?w8e3 ?_; (case w8N => k_asm); (case w8a => k_mem); (case w8b => k_mem); (case w8u => units_room); (case w8e1 => first | exact at_bytes (by assumption) (by assumption) | exact at_int (by first | rfl | omega) | exact at_str (by rfl)); (case w8e2 => first | exact at_bytes (by assumption) (by assumption) | exact at_int (by first | rfl | omega) | exact at_str (by rfl)); (case w8e3 => first | exact at_bytes (by assumption) (by assumption) | exact at_int (by first | rfl | omega) | exact at_str (by rfl)); k_whole)))
  k_with "MINE w:compareOp NotEq bytes bytes" => (k_here; (with_reducible show wpAny _ _ (compareOp CmpOp.NotEq (Value.bytes _ _) (Value.bytes _ _)) _ _ _); k_dflt (refine' ne_bytes_same ?w8b ?w8c ?w8e ?_; (case w8b => first | assumption | rfl | exact KBw.ints_app (by assumption) (by first | assumption | rfl) | exact KBw.ints_app (by rfl) (by assumption)); (case w8c => first | assumption | rfl | exact KBw.ints_app (by assumption) (by first | assumption | rfl) | exact KBw.ints_app (by rfl) (by assumption)); (case w8e => first | rfl | exact lit_first _ | k_extra "MINE same"); k_whole))
  k_with "MINE w:compareOp Eq bytes bytes" => (k_here; (with_reducible show wpAny _ _ (compareOp CmpOp.Eq (Value.bytes _ _) (Value.bytes _ _)) _ _ _); k_dflt (refine' eq_bytes_same ?w8b ?w8c ?w8e ?_; (case w8b => first | assumption | rfl | exact KBw.ints_app (by assumption) (by first | assumption | rfl) | exact KBw.ints_app (by rfl) (by assumption)); (case w8c => first | assumption | rfl | exact KBw.ints_app (by assumption) (by first | assumption | rfl) | exact KBw.ints_app (by rfl) (by assumption)); (case w8e => first | rfl | exact lit_first _ | k_extra "MINE same"); k_whole))
  k_with "MINE while" => refine hold_of ?_
  k_with "MINE ite" => (k_dflt (first | refine ite_pos (decide_eq_true (by omega)) ?_ | refine ite_neg (fun h => absurd (of_decide_eq_true h) (by omega)) ?_))
  k_with "MINE end" => refine hold_of ?_
  obtain ⟨hEl, hE0, hE1, hE2⟩ := hexE_at hE hin
  have hEz : E.length ≤ 300 := by omega
  have hE' := Hold.go hE
  clear hE
  (have fillNow : PySem.Challenge.rw_og0184_01.row.prog = PySem.Challenge.rw_og0184_01.row.prog ∧ hd.heap_39 = hd.heap_39 := (by (k_fill; exact ⟨rfl, rfl⟩)); clear fillNow)
  refine' contract_of [(Str.ofString "cursor", .ref x)] ?ho ?hcd ?hb ?hl ?h1 ?h2 ?h3 ?h4 ?_
  ((case ho => k_is); (case hcd => k_is); (case hb => intro s hX; exact BindsTo.of_eq rfl); (case hl => exact locs rfl); (case h1 => exact rfl); (case h2 => exact rfl); (case h3 => exact rfl); (case h4 => decide); k_whole; unfold Body)
  intro mean mg mb dp un gd outer A₀ base h₀ L s Q B X T F N hd hu hret hnone; k_fill; have kMark := kstMark
  k_steps
  refine Hold.go (ksw_while (σ := Int × Tok) (fun (pl, tp) => [(x, instObj 182 d), (d, (dictOf [{ hash := PyData.keyHash w.params (Str.ofString "data"), key := .str (Str.ofString "data") k1, val := .bytes b t }, { hash := PyData.keyHash w.params (Str.ofString "at"), key := .str (Str.ofString "at") k2, val := .int pl tp }, { hash := PyData.keyHash w.params (Str.ofString "end"), key := .str (Str.ofString "end") k3, val := .int (E.length : Int) t3 }] 3))])
    (fun _ => []) (fun _ => True) [Str.ofString "code"] (fun (pl, tp) => pl = 0 ∨ pl = 1) (fun (pl, tp) => (2 - pl).toNat) (p0, t2) (by assumption) (by assumption) True.intro no_names (.inl hp0) ?_)
  rintro ⟨pl, tp⟩ u h tk f1 g F2 N2
  dsimp only [kstB] at F2
  try dsimp only at N2
  have r1 : 0 ≤ pl := by have := g; dsimp only at this; omega
  have r2 : pl < E.length := by have := g; dsimp only at this; omega
  rcases g with g | g
  · have hg9 := g
    have hEp : E.getD pl.toNat 0 = 32 := by rw [g]; exact hE0
    k_with "MINE in" => (k_here; k_dflt (refine' in_top (b := true) ?F ?X ?l ?i ?e ?_; (case F => k_asm); (case X => k_asm); (case l => k_is); (case i => (repeat constructor)); (case e => (rw [hEp]; decide)); k_whole))
    k_steps
    refine Hold.go ?_
    (rename News _ _ _ _ => N9)
    (refine' ksw_end ⟨pl + 1, _⟩ (by assumption) N9 ?hn ?hf ?hk ?hr ?hp ?hm)
    (case hn => kcf_all)
    (case hf => exact True.intro)
    (case hk => exact no_names)
    (case hr => (intro z h2 h3; have e3 : z ≠ Str.ofString "code" := fun e => by { subst e; exact absurd h3 (by decide) }; simp only [if_neg e3, h3, Bool.false_eq_true, if_false]))
    (case hp => (dsimp only; omega))
    (case hm => (dsimp only; omega))
  · have hg9 := g
    have hEp : E.getD pl.toNat 0 = 60 := by rw [g]; exact hE1
    have q0 : E.getD (pl + 0).toNat 0 = 60 := by rw [Int.add_zero]; exact hEp
    k_with "MINE in" => (k_here; k_dflt (refine' in_top (b := false) ?F ?X ?l ?i ?e ?_; (case F => k_asm); (case X => k_asm); (case l => k_is); (case i => (repeat constructor)); (case e => (rw [hEp]; decide)); k_whole))
    k_with "MINE call" => ((with_reducible show wpAny _ _ (call (Value.ref 415) _) _ _ _); k_dflt (refine' (delim_hex_u (E := E) (ks := ks) hb hE'.out hl hin hxd (pl := pl) g (by omega)).use [] ?uB ?uF ?uX ?uN ?uT ?uk ?ud ?uu ?us ?ur ?uo ?_; ((case uB => k_asm); (case uF => k_asm); (case uX => k_asm); (case uN => k_asm); (case uT => k_asm); (case uk => first | exact rfl | assumption); (case ud => omega); (case uu => omega)); (case us => kcf_all); (case ur => exact fun _ h => nomatch h); (case uo => exact fun _ h => nomatch h); rintro r h8 tk8 n8 F8 N8 off8 ⟨a8, y8, ts8, ty8, ti8, rfl, rfl, e8⟩; simp only [List.cons_append, List.nil_append] at N8; clear off8))
    k_steps
    exact hret _ _ _ _ _ (by assumption) N8 ⟨_, _, _, _, _, rfl, rfl, e8⟩

set_option maxHeartbeats 900000 in
theorem string_octets_t {w : World} {b : Array UInt8} {t k1 k2 : Tok} {x d : Addr} {ks : List Int} {hx ls : Bool} (hb : KBw.bInts b = ks) (hl : ks.length ≤ 100) :
   Contract w 12 56 [.ref x, .bool ls] [(x, instObj 440 d), (d, dictOf [{ hash := PyData.keyHash w.params (Str.ofString "octets"), key := .str (Str.ofString "octets") k1, val := .bytes b t }, { hash := PyData.keyHash w.params (Str.ofString "is_hex"), key := .str (Str.ofString "is_hex") k2, val := .bool hx }] 2)]
     (fun r n => ∃ y ty, r = .bytes y ty ∧ n = [] ∧ KBw.bInts y = (if ls = true then (if (lit ks).length ≤ 2 * ks.length + 2 then lit ks else 60 :: (hexB ks ++ [62])) else if hx = true then 60 :: (hexB ks ++ [62]) else lit ks)) := by
  have hll : (lit ks).length ≤ 300 := by have := lit_length ks; omega
  obtain ⟨H, hH, l5⟩ : ∃ H, 60 :: (hexB ks ++ [62]) = H ∧ H.length = 2 * ks.length + 2 := ⟨_, rfl, by rw [hexB_nib]; simp only [List.length_cons, List.length_append, List.length_nil, List.length_map, nib_len]⟩
  have hH' := Hold.go hH
  rw [hH]
  clear hH
  obtain ⟨G, hG⟩ : ∃ G, lit ks = G := ⟨_, rfl⟩
  have hG' := Hold.go hG
  rw [hG] at hll ⊢
  clear hG
  k_with_none
  k_with "MINE w:callWith" => ((with_reducible show wpAny _ _ (callWith _ (Value.builtin _) (_ :: _) (backTo _ (starEach (_ :: _) _)) _) _ _ _); k_dflt (refine callWith_method1 ?_))
  k_with "MINE w:compareOp NotEq ref ref" => (k_here; (with_reducible show wpAny _ _ (compareOp CmpOp.NotEq (Value.ref _) (Value.ref _)) _ _ _); k_dflt (first
  | (refine' ne_tup2 ?w8N ?w8a ?w8b ?w8u ?w8e1 ?w8e2 ?_; (case w8N => k_asm); (case w8a => k_mem); (case w8b => k_mem); (case w8u => units_room); (case w8e1 => first | exact at_bytes (by assumption) (by assumption) | exact at_int (by first | rfl | omega) | exact at_str (by rfl)); (case w8e2 => first | exact at_bytes (by assumption) (by assumption) | exact at_int (by first | rfl | omega) | exact at_str (by rfl)); k_whole)
  | (refine' ne_tup3 ?w8N ?w8a ?w8b ?w8u ?w8e1 ?w8e2 ?w8e3 ?_; (case w8N => k_asm); (case w8a => k_mem); (case w8b => k_mem); (case w8u => units_room); (case w8e1 => first | exact at_bytes (by assumption) (by assumption) | exact at_int (by first | rfl | omega) | exact at_str (by rfl)); (case w8e2 => first | exact at_bytes (by assumption) (by assumption) | exact at_int (by first | rfl | omega) | exact at_str (by rfl)); (case w8e3 => first | exact at_bytes (by assumption) (by assumption) | exact at_int (by first | rfl | omega) | exact at_str (by rfl)); k_whole)))
  k_with "MINE w:compareOp NotEq bytes bytes" => (k_here; (with_reducible show wpAny _ _ (compareOp CmpOp.NotEq (Value.bytes _ _) (Value.bytes _ _)) _ _ _); k_dflt (refine' ne_bytes_same ?w8b ?w8c ?w8e ?_; (case w8b => first | assumption | rfl | exact KBw.ints_app (by assumption) (by first | assumption | rfl) | exact KBw.ints_app (by rfl) (by assumption)); (case w8c => first | assumption | rfl | exact KBw.ints_app (by assumption) (by first | assumption | rfl) | exact KBw.ints_app (by rfl) (by assumption)); (case w8e => first | rfl | exact lit_first _ | k_extra "MINE same"); k_whole))
  k_with "MINE w:compareOp Eq bytes bytes" => (k_here; (with_reducible show wpAny _ _ (compareOp CmpOp.Eq (Value.bytes _ _) (Value.bytes _ _)) _ _ _); k_dflt (refine' eq_bytes_same ?w8b ?w8c ?w8e ?_; (case w8b => first | assumption | rfl | exact KBw.ints_app (by assumption) (by first | assumption | rfl) | exact KBw.ints_app (by rfl) (by assumption)); (case w8c => first | assumption | rfl | exact KBw.ints_app (by assumption) (by first | assumption | rfl) | exact KBw.ints_app (by rfl) (by assumption)); (case w8e => first | rfl | exact lit_first _ | k_extra "MINE same"); k_whole))
  k_with "MINE ite" => (k_dflt (first | refine ite_pos (decide_eq_true (by omega)) ?_ | refine ite_neg (fun h => absurd (of_decide_eq_true h) (by omega)) ?_))
  k_with "MINE call" => ((with_reducible show wpAny _ _ (call (Value.ref 42) _) _ _ _); k_dflt (refine' (literal_octets_t hb hl).use0 ?uB ?uF ?uX ?uN ?uT ?uk ?ud ?uu ?_; ((case uB => k_asm); (case uF => k_asm); (case uX => k_asm); (case uN => k_asm); (case uT => k_asm); (case uk => first | exact rfl | assumption); (case ud => omega); (case uu => omega)); rintro r h4 tk4 n4 F4 N4 off4 ⟨x4, t4, rfl, e4, rfl⟩; rw [hG'.out] at e4; simp only [List.nil_append] at N4; clear off4))
  k_with "MINE call" => ((with_reducible show wpAny _ _ (call (Value.ref 49) _) _ _ _); k_dflt (refine' (hex_octets_t hb hl).use0 ?uB ?uF ?uX ?uN ?uT ?uk ?ud ?uu ?_; ((case uB => k_asm); (case uF => k_asm); (case uX => k_asm); (case uN => k_asm); (case uT => k_asm); (case uk => first | exact rfl | assumption); (case ud => omega); (case uu => omega)); rintro r h5 tk5 n5 F5 N5 off5 ⟨x5, t5, rfl, e5, rfl⟩; rw [hH'.out] at e5; simp only [List.nil_append] at N5; clear off5))
  (have fillNow : PySem.Challenge.rw_og0184_01.row.prog = PySem.Challenge.rw_og0184_01.row.prog ∧ hd.heap_39 = hd.heap_39 := (by (k_fill; exact ⟨rfl, rfl⟩)); clear fillNow)
  refine' contract_of [(Str.ofString "value", .ref x), (Str.ofString "is_least", .bool ls)] ?ho ?hcd ?hb ?hl ?h1 ?h2 ?h3 ?h4 ?_
  ((case ho => k_is); (case hcd => k_is); (case hb => intro s hX; exact BindsTo.of_eq rfl); (case hl => exact locs rfl); (case h1 => exact rfl); (case h2 => exact rfl); (case h3 => exact rfl); (case h4 => decide); k_whole; unfold Body)
  intro mean mg mb dp un gd outer A₀ base h₀ L s Q B X T F N hd hu hret hnone; k_fill; have kMark := kstMark
  cases ls
  · cases hx
    · k_steps
      exact hret _ _ _ _ [] (by assumption) (fun _ h => nomatch h) ⟨_, _, rfl, rfl, e4⟩
    · k_steps
      exact hret _ _ _ _ [] (by assumption) (fun _ h => nomatch h) ⟨_, _, rfl, rfl, e5⟩
  · k_steps
    · exact hret _ _ _ _ [] (by assumption) (fun _ h => nomatch h) ⟨_, _, rfl, rfl, by rw [if_pos rfl, if_pos (by omega)]; exact e4⟩
    · exact hret _ _ _ _ [] (by assumption) (fun _ h => nomatch h) ⟨_, _, rfl, rfl, by rw [if_pos rfl, if_neg (by omega)]; exact e5⟩

def PenAt (p c : Addr) (n x : Int) (cs : List Int) (news : Led) : Prop :=
  ∃ tn tx np vs nc, news = [(p, listOf #[.ref c, .int n tn, .int x tx] np), (c, listOf vs.toArray nc)] ∧ IntsAre vs cs
def drawPost (p c : Addr) (m : Int) (cs : List Int) (r : Value) (news : Led) : Prop :=
  ∃ v tv n x cs', r = .int v tv ∧ 0 ≤ v ∧ v < m ∧ 0 ≤ n ∧ 0 ≤ x ∧ (∀ k ∈ cs', 0 ≤ k) ∧ cs'.length ≤ cs.length ∧ PenAt p c n x cs' news
theorem fm_in {a m : Int} (hm : 1 ≤ m) : 0 ≤ a.fmod m ∧ a.fmod m < m := by
  rw [Int.fmod_eq_emod_of_nonneg _ (by omega)]
  exact ⟨Int.emod_nonneg _ (by omega), Int.emod_lt_of_pos _ (by omega)⟩
theorem fd_in {x m : Int} (hx : 0 ≤ x) (hm : 1 ≤ m) : 0 ≤ x.fdiv m := by
  rw [Int.fdiv_eq_ediv_of_nonneg _ (by omega)]
  exact Int.ediv_nonneg hx (by omega)
theorem pen_news {h₀ h : Heap} {L p c : Addr} {o1 o2 : Obj} {all : Led} (N : News h₀ L h all) (h1 : (p, o1) ∈ all) (h2 : (c, o2) ∈ all) : News h₀ L h [(p, o1), (c, o2)] := by
  intro q hq
  rcases List.mem_cons.mp hq with rfl | hq
  · exact N _ h1
  · cases List.mem_singleton.mp hq
    exact N _ h2
set_option maxHeartbeats 900000 in
theorem draw_t {w : World} {p c : Addr} {vs : List Value} {cs : List Int} {n x m : Int} {tn tx tm : Tok} {np nc : Nat} (hpc : @Ne Nat p c) (hi : IntsAre vs cs) (hc : ∀ k ∈ cs, 0 ≤ k) (hn : 0 ≤ n) (hx : 0 ≤ x) (hm : 1 ≤ m) (hm2 : m ≤ 1000) (hz : cs.length ≤ 40) :
   Contract w 4 456 [.ref p, .int m tm] [(p, listOf #[.ref c, .int n tn, .int x tx] np), (c, listOf vs.toArray nc)] (drawPost p c m cs) := by
  k_with_none
  k_with "MINE w:callWith" => ((with_reducible show wpAny _ _ (callWith _ (Value.builtin _) (_ :: _) (backTo _ (starEach (_ :: _) _)) _) _ _ _); k_dflt (refine callWith_method1 ?_))
  k_with "MINE w:compareOp NotEq ref ref" => (k_here; (with_reducible show wpAny _ _ (compareOp CmpOp.NotEq (Value.ref _) (Value.ref _)) _ _ _); k_dflt (first
  | (refine' ne_tup2 ?w8N ?w8a ?w8b ?w8u ?w8e1 ?w8e2 ?_; (case w8N => k_asm); (case w8a => k_mem); (case w8b => k_mem); (case w8u => units_room); (case w8e1 => first | exact at_bytes (by assumption) (by assumption) | exact at_int (by first | rfl | omega) | exact at_str (by rfl)); (case w8e2 => first | exact at_bytes (by assumption) (by assumption) | exact at_int (by first | rfl | omega) | exact at_str (by rfl)); k_whole)
  | (refine' ne_tup3 ?w8N ?w8a ?w8b ?w8u ?w8e1 ?w8e2 ?w8e3 ?_; (case w8N => k_asm); (case w8a => k_mem); (case w8b => k_mem); (case w8u => units_room); (case w8e1 => first | exact at_bytes (by assumption) (by assumption) | exact at_int (by first | rfl | omega) | exact at_str (by rfl)); (case w8e2 => first | exact at_bytes (by assumption) (by assumption) | exact at_int (by first | rfl | omega) | exact at_str (by rfl)); (case w8e3 => first | exact at_bytes (by assumption) (by assumption) | exact at_int (by first | rfl | omega) | exact at_str (by rfl)); k_whole)))
  k_with "MINE w:compareOp NotEq bytes bytes" => (k_here; (with_reducible show wpAny _ _ (compareOp CmpOp.NotEq (Value.bytes _ _) (Value.bytes _ _)) _ _ _); k_dflt (refine' ne_bytes_same ?w8b ?w8c ?w8e ?_; (case w8b => first | assumption | rfl | exact KBw.ints_app (by assumption) (by first | assumption | rfl) | exact KBw.ints_app (by rfl) (by assumption)); (case w8c => first | assumption | rfl | exact KBw.ints_app (by assumption) (by first | assumption | rfl) | exact KBw.ints_app (by rfl) (by assumption)); (case w8e => first | rfl | exact lit_first _ | k_extra "MINE same"); k_whole))
  k_with "MINE w:compareOp Eq bytes bytes" => (k_here; (with_reducible show wpAny _ _ (compareOp CmpOp.Eq (Value.bytes _ _) (Value.bytes _ _)) _ _ _); k_dflt (refine' eq_bytes_same ?w8b ?w8c ?w8e ?_; (case w8b => first | assumption | rfl | exact KBw.ints_app (by assumption) (by first | assumption | rfl) | exact KBw.ints_app (by rfl) (by assumption)); (case w8c => first | assumption | rfl | exact KBw.ints_app (by assumption) (by first | assumption | rfl) | exact KBw.ints_app (by rfl) (by assumption)); (case w8e => first | rfl | exact lit_first _ | k_extra "MINE same"); k_whole))
  k_with "MINE ite" => (k_dflt (first | refine ite_pos (decide_eq_true (by omega)) ?_ | refine ite_neg (fun h => absurd (of_decide_eq_true h) (by omega)) ?_))
  have hvl : vs.length = cs.length := hi.length
  (have fillNow : PySem.Challenge.rw_og0184_01.row.prog = PySem.Challenge.rw_og0184_01.row.prog ∧ hd.heap_39 = hd.heap_39 := (by (k_fill; exact ⟨rfl, rfl⟩)); clear fillNow)
  refine' contract_of [(Str.ofString "pen", .ref p), (Str.ofString "many", .int m tm)] ?ho ?hcd ?hb ?hl ?h1 ?h2 ?h3 ?h4 ?_
  ((case ho => k_is); (case hcd => k_is); (case hb => intro s hX; exact BindsTo.of_eq rfl); (case hl => exact locs rfl); (case h1 => exact rfl); (case h2 => exact rfl); (case h3 => exact rfl); (case h4 => decide); k_whole; unfold Body)
  intro mean mg mb dp un gd outer A₀ base h₀ L s Q B X T F N hd hu hret hnone; k_fill; have kMark := kstMark
  k_with "MINE div" => (k_dflt (refine floordiv_int (by omega) ?_ (Or.inl (PyProof.noPylong_small (by omega)))))
  k_with "MINE pop" => (k_here; (with_reducible show wpAny _ _ (call (Value.builtin _) [Value.ref _, Value.int _ _]) _ _ _); k_dflt (refine' pop0 ?F ?N ?U ?z ?_; (case F => k_asm); (case N => k_asm); (case U => k_upd); (case z => omega)); (intro h' F' N'; (try dsimp only [List.nil_append, List.cons_append] at N')))
  cases hi with
  | nil =>
    k_steps
    all_goals (rename News _ _ _ _ => N9)
    all_goals exact hret _ _ _ _ _ (by assumption) (pen_news (p := p) (c := c) N9 (by k_mem) (by k_mem)) ⟨_, _, _, _, [], rfl, (fm_in hm).1, (fm_in hm).2, by omega, fd_in hx hm, hc, Nat.le_refl _, _, _, _, _, _, rfl, .nil⟩
  | cons k0 t0 hi0 =>
    rename_i vs0 cs0
    have hl0 : vs0.length ≤ 40 := by simp only [List.length_cons] at hz hvl; omega
    have hk0 : 0 ≤ k0 := hc _ (.head _)
    k_steps
    all_goals (rename News _ _ _ _ => N9)
    all_goals first
      | exact absurd (‹decide (k0 :: cs0 = []) = true›) (by simp)
      | exact hret _ _ _ _ _ (by assumption) (pen_news (p := p) (c := c) N9 (by k_mem) (by k_mem)) ⟨_, _, _, _, cs0, rfl, (fm_in hm).1, (fm_in hm).2, by omega, fd_in hk0 hm, fun k hk => hc k (.tail _ hk), Nat.le_succ _, _, _, _, _, _, rfl, hi0⟩
      | exact hret _ _ _ _ _ (by assumption) (pen_news (p := p) (c := c) N9 (by k_mem) (by k_mem)) ⟨_, _, _, _, k0 :: cs0, rfl, (fm_in hm).1, (fm_in hm).2, by omega, fd_in hx hm, hc, Nat.le_refl _, _, _, _, _, _, rfl, .cons _ _ hi0⟩

def pickPost (p c : Addr) (cs : List Int) (r : Value) (news : Led) : Prop :=
  ∃ v tv n x cs', r = .int v tv ∧ 0 ≤ v ∧ v < 256 ∧ 0 ≤ n ∧ 0 ≤ x ∧ (∀ k ∈ cs', 0 ≤ k) ∧ cs'.length ≤ cs.length ∧ PenAt p c n x cs' news
theorem getD_in {ds : List Int} {i : Nat} (h : i < ds.length) : ds.getD i 0 ∈ ds := by
  rw [List.getD_eq_getElem?_getD, List.getElem?_eq_getElem h]
  exact List.getElem_mem h
set_option maxHeartbeats 900000 in
theorem pick_t {w : World} {p c l : Addr} {vs us : List Value} {cs ds : List Int} {n x : Int} {tn tx : Tok} {np nc nl : Nat} (hpc : @Ne Nat p c) (hlp : @Ne Nat l p) (hlc : @Ne Nat l c) (hi : IntsAre vs cs) (hc : ∀ k ∈ cs, 0 ≤ k) (hn : 0 ≤ n) (hx : 0 ≤ x) (hz : cs.length ≤ 40)
   (hu9 : IntsAre us ds) (hdl : ds.length = 10) (hdi : ∀ k ∈ ds, 0 ≤ k ∧ k < 256) :
   Contract w 8 463 [.ref p, .ref l] [(p, listOf #[.ref c, .int n tn, .int x tx] np), (c, listOf vs.toArray nc), (l, listOf us.toArray nl)] (pickPost p c cs) := by
  k_with_none
  k_with "MINE w:callWith" => ((with_reducible show wpAny _ _ (callWith _ (Value.builtin _) (_ :: _) (backTo _ (starEach (_ :: _) _)) _) _ _ _); k_dflt (refine callWith_method1 ?_))
  k_with "MINE w:compareOp NotEq ref ref" => (k_here; (with_reducible show wpAny _ _ (compareOp CmpOp.NotEq (Value.ref _) (Value.ref _)) _ _ _); k_dflt (first
  | (refine' ne_tup2 ?w8N ?w8a ?w8b ?w8u ?w8e1 ?w8e2 ?_; (case w8N => k_asm); (case w8a => k_mem); (case w8b => k_mem); (case w8u => units_room); (case w8e1 => first | exact at_bytes (by assumption) (by assumption) | exact at_int (by first | rfl | omega) | exact at_str (by rfl)); (case w8e2 => first | exact at_bytes (by assumption) (by assumption) | exact at_int (by first | rfl | omega) | exact at_str (by rfl)); k_whole)
  | (refine' ne_tup3 ?w8N ?w8a ?w8b ?w8u ?w8e1 ?w8e2 ?w8e3 ?_; (case w8N => k_asm); (case w8a => k_mem); (case w8b => k_mem); (case w8u => units_room); (case w8e1 => first | exact at_bytes (by assumption) (by assumption) | exact at_int (by first | rfl | omega) | exact at_str (by rfl)); (case w8e2 => first | exact at_bytes (by assumption) (by assumption) | exact at_int (by first | rfl | omega) | exact at_str (by rfl)); (case w8e3 => first | exact at_bytes (by assumption) (by assumption) | exact at_int (by first | rfl | omega) | exact at_str (by rfl)); k_whole)))
  k_with "MINE w:compareOp NotEq bytes bytes" => (k_here; (with_reducible show wpAny _ _ (compareOp CmpOp.NotEq (Value.bytes _ _) (Value.bytes _ _)) _ _ _); k_dflt (refine' ne_bytes_same ?w8b ?w8c ?w8e ?_; (case w8b => first | assumption | rfl | exact KBw.ints_app (by assumption) (by first | assumption | rfl) | exact KBw.ints_app (by rfl) (by assumption)); (case w8c => first | assumption | rfl | exact KBw.ints_app (by assumption) (by first | assumption | rfl) | exact KBw.ints_app (by rfl) (by assumption)); (case w8e => first | rfl | exact lit_first _ | k_extra "MINE same"); k_whole))
  k_with "MINE w:compareOp Eq bytes bytes" => (k_here; (with_reducible show wpAny _ _ (compareOp CmpOp.Eq (Value.bytes _ _) (Value.bytes _ _)) _ _ _); k_dflt (refine' eq_bytes_same ?w8b ?w8c ?w8e ?_; (case w8b => first | assumption | rfl | exact KBw.ints_app (by assumption) (by first | assumption | rfl) | exact KBw.ints_app (by rfl) (by assumption)); (case w8c => first | assumption | rfl | exact KBw.ints_app (by assumption) (by first | assumption | rfl) | exact KBw.ints_app (by rfl) (by assumption)); (case w8e => first | rfl | exact lit_first _ | k_extra "MINE same"); k_whole))
  k_with "MINE ite" => (k_dflt (first | refine ite_pos (decide_eq_true (by omega)) ?_ | refine ite_neg (fun h => absurd (of_decide_eq_true h) (by omega)) ?_))
  have hul : us.length = ds.length := hu9.length
  have hvl : vs.length = cs.length := hi.length
  (have fillNow : PySem.Challenge.rw_og0184_01.row.prog = PySem.Challenge.rw_og0184_01.row.prog ∧ hd.heap_39 = hd.heap_39 := (by (k_fill; exact ⟨rfl, rfl⟩)); clear fillNow)
  refine' contract_of [(Str.ofString "pen", .ref p), (Str.ofString "some", .ref l)] ?ho ?hcd ?hb ?hl ?h1 ?h2 ?h3 ?h4 ?_
  ((case ho => k_is); (case hcd => k_is); (case hb => intro s hX; exact BindsTo.of_eq rfl); (case hl => exact locs rfl); (case h1 => exact rfl); (case h2 => exact rfl); (case h3 => exact rfl); (case h4 => decide); k_whole; unfold Body)
  intro mean mg mb dp un gd outer A₀ base h₀ L s Q B X T F N hd hu hret hnone; k_fill; have kMark := kstMark
  k_with "MINE call" => ((with_reducible show wpAny _ _ (call (Value.ref 456) _) _ _ _); k_dflt (refine' (draw_t hpc hi hc hn hx (by omega) (by omega) hz).use [(l, listOf us.toArray nl)] ?uB ?uF ?uX ?uN ?uT ?uk ?ud ?uu ?us ?ur ?uo ?_; ((case uB => k_asm); (case uF => k_asm); (case uX => k_asm); (case uN => k_asm); (case uT => k_asm); (case uk => first | exact rfl | assumption); (case ud => omega); (case uu => omega)); (case us => kcf_all); (case ur => kcf_all); (case uo => (intro q hq; cases List.mem_singleton.mp hq; intro hm; rcases List.mem_cons.mp hm with e | hm; (· exact hlp e); (· exact hlc (List.mem_singleton.mp hm)))); rintro r h8 tk8 n8 F8 N8 off8 ⟨v8, tv8, n9, x9, cs9, rfl, v0, v1, hn9, hx9, hc9, hl9, t1, t2, np9, vs9, nc9, rfl, hi9⟩; simp only [List.cons_append, List.nil_append] at N8; clear off8))
  k_steps
  have g9 := hdi _ (getD_in (ds := ds) (i := v8.toNat) (by omega))
  exact hret _ _ _ _ _ (by assumption) (pen_news (p := p) (c := c) N8 (by k_mem) (by k_mem)) ⟨_, _, _, _, cs9, rfl, g9.1, g9.2, hn9, hx9, hc9, hl9, _, _, _, _, _, rfl, hi9⟩

def octPost (p c : Addr) (cs : List Int) (r : Value) (news : Led) : Prop :=
  ∃ y ty os n x cs', r = .bytes y ty ∧ KBw.bInts y = os ∧ os.length ≤ 16 ∧ (∀ k ∈ os, 0 ≤ k ∧ k < 256) ∧ 0 ≤ n ∧ 0 ≤ x ∧ (∀ k ∈ cs', 0 ≤ k) ∧ cs'.length ≤ cs.length ∧ PenAt p c n x cs' news
def PenIn (p c : Addr) (q : Addr × Obj) (cs : List Int) (nw : List (Addr × Obj)) : Prop :=
  ∃ n x cs' tn tx np vs nc, nw = [(p, listOf #[.ref c, .int n tn, .int x tx] np), (c, listOf vs.toArray nc), q] ∧ IntsAre vs cs' ∧ 0 ≤ n ∧ 0 ≤ x ∧ (∀ k ∈ cs', 0 ≤ k) ∧ cs'.length ≤ cs.length
set_option maxHeartbeats 900000 in
theorem octets_t {w : World} {p c : Addr} {vs : List Value} {cs : List Int} {n x : Int} {tn tx : Tok} {np nc : Nat} (hpc : @Ne Nat p c) (hi : IntsAre vs cs) (hc : ∀ k ∈ cs, 0 ≤ k) (hn : 0 ≤ n) (hx : 0 ≤ x) (hz : cs.length ≤ 40) :
   Contract w 20 468 [.ref p] [(p, listOf #[.ref c, .int n tn, .int x tx] np), (c, listOf vs.toArray nc)] (octPost p c cs) := by
  k_with_none
  k_with "MINE w:callWith" => ((with_reducible show wpAny _ _ (callWith _ (Value.builtin _) (_ :: _) (backTo _ (starEach (_ :: _) _)) _) _ _ _); k_dflt (refine callWith_method1 ?_))
  k_with "MINE w:compareOp NotEq ref ref" => (k_here; (with_reducible show wpAny _ _ (compareOp CmpOp.NotEq (Value.ref _) (Value.ref _)) _ _ _); k_dflt (first
  | (refine' ne_tup2 ?w8N ?w8a ?w8b ?w8u ?w8e1 ?w8e2 ?_; (case w8N => k_asm); (case w8a => k_mem); (case w8b => k_mem); (case w8u => units_room); (case w8e1 => first | exact at_bytes (by assumption) (by assumption) | exact at_int (by first | rfl | omega) | exact at_str (by rfl)); (case w8e2 => first | exact at_bytes (by assumption) (by assumption) | exact at_int (by first | rfl | omega) | exact at_str (by rfl)); k_whole)
  | (refine' ne_tup3 ?w8N ?w8a ?w8b ?w8u ?w8e1 ?w8e2 ?w8e3 ?_; (case w8N => k_asm); (case w8a => k_mem); (case w8b => k_mem); (case w8u => units_room); (case w8e1 => first | exact at_bytes (by assumption) (by assumption) | exact at_int (by first | rfl | omega) | exact at_str (by rfl)); (case w8e2 => first | exact at_bytes (by assumption) (by assumption) | exact at_int (by first | rfl | omega) | exact at_str (by rfl)); (case w8e3 => first | exact at_bytes (by assumption) (by assumption) | exact at_int (by first | rfl | omega) | exact at_str (by rfl)); k_whole)))
  k_with "MINE w:compareOp NotEq bytes bytes" => (k_here; (with_reducible show wpAny _ _ (compareOp CmpOp.NotEq (Value.bytes _ _) (Value.bytes _ _)) _ _ _); k_dflt (refine' ne_bytes_same ?w8b ?w8c ?w8e ?_; (case w8b => first | assumption | rfl | exact KBw.ints_app (by assumption) (by first | assumption | rfl) | exact KBw.ints_app (by rfl) (by assumption)); (case w8c => first | assumption | rfl | exact KBw.ints_app (by assumption) (by first | assumption | rfl) | exact KBw.ints_app (by rfl) (by assumption)); (case w8e => first | rfl | exact lit_first _ | k_extra "MINE same"); k_whole))
  k_with "MINE w:compareOp Eq bytes bytes" => (k_here; (with_reducible show wpAny _ _ (compareOp CmpOp.Eq (Value.bytes _ _) (Value.bytes _ _)) _ _ _); k_dflt (refine' eq_bytes_same ?w8b ?w8c ?w8e ?_; (case w8b => first | assumption | rfl | exact KBw.ints_app (by assumption) (by first | assumption | rfl) | exact KBw.ints_app (by rfl) (by assumption)); (case w8c => first | assumption | rfl | exact KBw.ints_app (by assumption) (by first | assumption | rfl) | exact KBw.ints_app (by rfl) (by assumption)); (case w8e => first | rfl | exact lit_first _ | k_extra "MINE same"); k_whole))
  k_with "MINE ite" => (k_dflt (first | refine ite_pos (decide_eq_true (by omega)) ?_ | refine ite_neg (fun h => absurd (of_decide_eq_true h) (by omega)) ?_))
  have hvl : vs.length = cs.length := hi.length
  (have fillNow : PySem.Challenge.rw_og0184_01.row.prog = PySem.Challenge.rw_og0184_01.row.prog ∧ hd.heap_39 = hd.heap_39 := (by (k_fill; exact ⟨rfl, rfl⟩)); clear fillNow)
  refine' contract_cell [(Str.ofString "pen", .ref p)] ?ho ?hcd ?hb ?hki ?hnd ?h1 ?h2 ?h3 ?_
  (case ho => k_is); (case hcd => k_is); (case hb => intro s hX; exact BindsTo.of_eq rfl); (case hki => intro n y hy; cases List.mem_singleton.mp hy; exact .inr ⟨rfl, rfl⟩); (case hnd => decide); (case h1 => exact rfl); (case h2 => exact rfl); (case h3 => exact rfl); k_whole
  unfold BodyC
  intro mean mg mb dp un gd outer A₀ base h₀ L s Q cells B X T F N hC hd hu hret hnone
  obtain ⟨oh, rfl, hoh⟩ := CellsAre.one (show CellsAre _ [(Str.ofString "pen", L + 1)] cells from hC)
  clear hC
  replace hoh : oh.data = .cell (some (.ref p)) := hoh
  replace F : Fr h₀ L s.heap (fun y => none) := F
  simp only [List.cons_append, List.nil_append] at N
  have n1 : @Ne Nat (L + 1) p := fun e => by
    have a := (N (L + 1, oh) (.head _)).1
    have b := (N _ (.tail _ (.head _))).1
    dsimp only at a b
    rw [show (L + 1 : Addr) = p from e, b] at a
    cases a; cases hoh
  have n2 : @Ne Nat (L + 1) c := fun e => by
    have a := (N (L + 1, oh) (.head _)).1
    have b := (N _ (.tail _ (.tail _ (.head _)))).1
    dsimp only at a b
    rw [show (L + 1 : Addr) = c from e, b] at a
    cases a; cases hoh
  change wpAny _ (ktrTop dp un gd (Str.ofString "_law_octets") _ L 468 _ [(Str.ofString "pen", L + 1)] outer) (execs _ (envX _ _ L _ _ [(Str.ofString "pen", L + 1)])) _ _ _
  k_fill; have kMark := kstMark
  have off1 : L + 1 ∉ [p, c] := fun hm => by
    rcases List.mem_cons.mp hm with e | hm
    · exact n1 e
    · exact n2 (List.mem_singleton.mp hm)
  k_with "MINE call" => ((with_reducible show wpAny _ _ (call (Value.ref 456) _) _ _ _); k_dflt (refine' (draw_t hpc hi hc hn hx (by omega) (by omega) hz).use [(L + 1, oh)] ?uB ?uF ?uX ?uN ?uT ?uk ?ud ?uu ?us ?ur ?uo ?_; ((case uB => k_asm); (case uF => k_asm); (case uX => k_asm); (case uN => k_asm); (case uT => k_asm); (case uk => first | exact rfl | assumption); (case ud => omega); (case uu => omega)); (case us => kcf_all); (case ur => kcf_all); (case uo => (intro q hq; cases List.mem_singleton.mp hq; exact off1)); rintro r h8 tk8 n8 F8 N8 off8 ⟨v8, tv8, n9, x9, cs9, rfl, v0, v1, hn9, hx9, hc9, hl9, t1, t2, np9, vs9, nc9, rfl, hi9⟩; simp only [List.cons_append, List.nil_append] at N8; clear off8))
  k_with "MINE comp" => (k_here; k_dflt (refine ListComp_UR1 (F₀ := by k_asm) (by with_unfolding_all rfl) (by decide) (by rfl) (by decide) (by rfl) ?_))
  k_with "MINE src" => refine hold_of ?_
  k_steps
  refine Hold.go ?_
  have hnv : ((v8.toNat : Nat) : Int) = v8 := Int.toNat_of_nonneg v0
  refine src_pen (n := v8.toNat) (PenIn p c (L + 1, oh) cs9) (by rfl) (by k_asm) (by k_asm) ⟨n9, x9, cs9, _, _, _, _, _, rfl, hi9, hn9, hx9, hc9, Nat.le_refl _⟩ (by assumption) (small_one (by omega) (by omega) (by omega) (by omega)) (by rw [rangeSize_one]; split <;> omega) (by rw [PySem.sizeLine_eq]; omega) ?_ ?_
  · intro g' k' t' I' oI' C' oC' D' m' ys' h' tk' nw' E' hPI' hI' hx' F' N' off' ne' hMark'
    obtain ⟨n7, x7, cs7, tn7, tx7, np7, vs7, nc7, rfl, hi7, hn7, hx7, hc7, hl7⟩ := hPI'
    simp only [LCg.Off3, and_true] at off'
    k_with "MINE call" => refine hold_of ?_
    k_with "MINE call" => ((with_reducible show wpAny _ _ (call (Value.ref 456) _) _ _ _); k_dflt (refine' (draw_t hpc hi7 hc7 hn7 hx7 (by omega) (by omega) (by omega)).useR [(I', oI'), (C', oC'), (D', LCg.lst ys'), (L + 1, oh)] ?uB ?uF ?uX ?uN ?uT ?uk ?ud ?uu ?m1 ?m2 ?ur ?o1 ?o2 ?_; ((case uB => k_asm); (case uF => k_asm); (case uX => k_asm); (case uN => k_asm); (case uT => k_asm); (case uk => first | exact rfl | assumption); (case ud => omega); (case uu => omega)); (case m1 => k_mem); (case m2 => k_mem); (case ur => kcf_all); (case o1 => k_all); (case o2 => k_all); rintro r h6 tk6 n6 F6 N6 ⟨v6, tv6, nn6, x6, cs6, rfl, v60, v61, hn6, hx6, hc6, hl6, t61, t62, np6, vs6, nc6, rfl, hi6⟩; simp only [List.cons_append, List.nil_append] at N6))
    k_with "MINE call" => ((with_reducible show wpAny _ _ (call (Value.ref 463) _) _ _ _); k_dflt (refine' (pick_t (ds := [40, 41, 40, 92, 13, 10, 65, 41, 114, v6]) hpc ?lp ?lc hi6 hc6 hn6 hx6 (by omega) ?us9 ?dl ?di).useR3 [(I', oI'), (C', oC'), (D', LCg.lst ys'), (L + 1, oh)] ?uB ?uF ?uX ?uN ?uT ?uk ?ud ?uu ?m1 ?m2 ?m3 ?ur ?o1 ?o2 ?o3 ?_; ((case uB => k_asm); (case uF => k_asm); (case uX => k_asm); (case uN => k_asm); (case uT => k_asm); (case uk => first | exact rfl | assumption); (case ud => omega); (case uu => omega)); (case m1 => k_mem); (case m2 => k_mem); (case m3 => k_mem); (case us9 => (repeat constructor)); (case dl => rfl); (case di => (intro k hk; simp only [List.mem_cons, List.not_mem_nil, or_false] at hk; omega)); (case lp => k_ne); (case lc => k_ne); (case ur => kcf_all); (case o1 => k_all); (case o2 => k_all); (case o3 => k_all); rintro r h5 tk5 n5 F5 N5 ⟨v5, tv5, nn5, x5, cs5, rfl, v50, v51, hn5, hx5, hc5, hl5, t51, t52, np5, vs5, nc5, rfl, hi5⟩; simp only [List.cons_append, List.nil_append] at N5))
    k_with "MINE cend" => (k_dflt (refine LCg.CompEnd.intro (by k_asm) N5 [(p, listOf #[.ref c, .int nn5 t51, .int x5 t52] np5), (c, listOf vs5.toArray nc5), (L + 1, oh)] (by kcf_all) (by simp only [LCg.Off3, and_true]; exact off') True.intro ⟨⟨v5, _, rfl, v50, v51⟩, nn5, x5, cs5, _, _, _, _, _, rfl, hi5, hn5, hx5, hc5, by omega⟩))
    k_steps
  · intro z ys ns nw hI hin hl hPI
    obtain ⟨n7, x7, cs7, tn7, tx7, np7, vs7, nc7, rfl, hi7, hn7, hx7, hc7, hl7⟩ := hPI
    unfold LCg.FinE
    intro D h' tk' F' N' off1
    replace N' : News _ _ h' ((D, W.listOf ys.toArray ys.length) :: _) := N'
    have hyl : ys.length = ns.length := hI.length
    k_with "MINE tobytes" => (k_dflt (refine' to_bytes ?F ?N rfl (List.Mem.head _) rfl ?i hin ?z ?_; (case F => k_asm); (case N => k_asm); (case i => exact hI); (case z => omega); intro h9 t9 k9 x9 F9 N9 e9))
    k_steps
    rename News _ _ _ _ => N9
    exact hret _ _ _ _ _ (by assumption) (pen_news (p := p) (c := c) N9 (by k_mem) (by k_mem)) ⟨_, _, ns, _, _, cs7, rfl, e9, by omega, hin, hn7, hx7, hc7, by omega, _, _, _, _, _, rfl, hi7⟩

set_option maxHeartbeats 900000 in
theorem seg_d {w : World} {b x4 x5 : Array UInt8} {t t4 t5 te tT : Tok} {ks G H : List Int} {e : Int} {vl : Value} {Tx : Str} (hb : KBw.bInts b = ks) (hl : ks.length ≤ 100) (e4 : KBw.bInts x4 = G) (e5 : KBw.bInts x5 = H) (hG : lit ks = G) (hH : 60 :: (hexB ks ++ [62]) = H) (hGl : (G.length : Int) = ks.length + 2 + e) :
   Seg w 30 487 8 (fun y => if y = Str.ofString "angled_text" then some (.str Tx tT) else if y = Str.ofString "escapes" then some (.int e te) else if y = Str.ofString "rounded" then some (.bytes x4 t4) else if y = Str.ofString "angled" then some (.bytes x5 t5) else if y = Str.ofString "lone" then some vl else List.lookup y [(Str.ofString "octets", .bytes b t)].reverse) (.bool true) := by
  have hG' := Hold.go hG
  have hH' := Hold.go hH
  clear hG hH
  have hz : b.size ≤ sizeLine := by rw [← KBw.ints_length b, hb, PySem.sizeLine_eq]; omega
  k_with_none
  k_with "MINE w:callWith" => ((with_reducible show wpAny _ _ (callWith _ (Value.builtin _) (_ :: _) (backTo _ (starEach (_ :: _) _)) _) _ _ _); k_dflt (refine callWith_method1 ?_))
  k_with "MINE w:compareOp NotEq ref ref" => (k_here; (with_reducible show wpAny _ _ (compareOp CmpOp.NotEq (Value.ref _) (Value.ref _)) _ _ _); k_dflt (first
  | (refine' ne_tup2 ?w8N ?w8a ?w8b ?w8u ?w8e1 ?w8e2 ?_; (case w8N => k_asm); (case w8a => k_mem); (case w8b => k_mem); (case w8u => units_room); (case w8e1 => first | exact at_bytes (by assumption) (by assumption) | exact at_int (by first | rfl | omega) | exact at_str (by rfl)); (case w8e2 => first | exact at_bytes (by assumption) (by assumption) | exact at_int (by first | rfl | omega) | exact at_str (by rfl)); k_whole)
  | (refine' ne_tup3 ?w8N ?w8a ?w8b ?w8u ?w8e1 ?w8e2 ?w8e3 ?_; (case w8N => k_asm); (case w8a => k_mem); (case w8b => k_mem); (case w8u => units_room); (case w8e1 => first | exact at_bytes (by assumption) (by assumption) | exact at_int (by first | rfl | omega) | exact at_str (by rfl)); (case w8e2 => first | exact at_bytes (by assumption) (by assumption) | exact at_int (by first | rfl | omega) | exact at_str (by rfl)); (case w8e3 => first | exact at_bytes (by assumption) (by assumption) | exact at_int (by first | rfl | omega) | exact at_str (by rfl)); k_whole)))
  k_with "MINE w:compareOp NotEq bytes bytes" => (k_here; (with_reducible show wpAny _ _ (compareOp CmpOp.NotEq (Value.bytes _ _) (Value.bytes _ _)) _ _ _); k_dflt (refine' ne_bytes_same ?w8b ?w8c ?w8e ?_; (case w8b => first | assumption | rfl | exact KBw.ints_app (by assumption) (by first | assumption | rfl) | exact KBw.ints_app (by rfl) (by assumption)); (case w8c => first | assumption | rfl | exact KBw.ints_app (by assumption) (by first | assumption | rfl) | exact KBw.ints_app (by rfl) (by assumption)); (case w8e => first | rfl | exact lit_first _ | k_extra "MINE same"); k_whole))
  k_with "MINE w:compareOp Eq bytes bytes" => (k_here; (with_reducible show wpAny _ _ (compareOp CmpOp.Eq (Value.bytes _ _) (Value.bytes _ _)) _ _ _); k_dflt (refine' eq_bytes_same ?w8b ?w8c ?w8e ?_; (case w8b => first | assumption | rfl | exact KBw.ints_app (by assumption) (by first | assumption | rfl) | exact KBw.ints_app (by rfl) (by assumption)); (case w8c => first | assumption | rfl | exact KBw.ints_app (by assumption) (by first | assumption | rfl) | exact KBw.ints_app (by rfl) (by assumption)); (case w8e => first | rfl | exact lit_first _ | k_extra "MINE same"); k_whole))
  k_with "MINE ite" => (k_dflt (first | refine ite_pos (decide_eq_true (by omega)) ?_ | refine ite_neg (fun h => absurd (of_decide_eq_true h) (by omega)) ?_))
  k_with "MINE ifexp" => (k_here; (fail_if_success (with_reducible show wpAny _ _ _ (WayEnd _ _) _ _)); (with_reducible show wpAny _ _ (eval (.IfExp (.Compare _ _ _ _) _ _ _) _) _ _ _); k_dflt (refine way_cut (fun v => ∃ y ty, v = .bytes y ty ∧ KBw.bInts y = if G.length ≤ 2 * ks.length + 2 then G else H) ?_ ?_; rotate_left; rintro v tk9 ⟨y8, ty8, rfl, e8⟩))
  k_with "MINE way" => (k_dflt (first | exact ⟨⟨_, _, rfl, by rw [if_pos (by omega)]; assumption⟩, _, rfl⟩ | exact ⟨⟨_, _, rfl, by rw [if_neg (by omega)]; assumption⟩, _, rfl⟩))
  k_with "MINE call" => ((with_reducible show wpAny _ _ (call (Value.ref 56) _) _ _ _); k_dflt (refine' (string_octets_t (ks := ks) hb hl).use2 ?uB ?uF ?uX ?uN ?uT ?uk ?ud ?uu ?u1 ?u2 ?_; ((case uB => k_asm); (case uF => k_asm); (case uX => k_asm); (case uN => k_asm); (case uT => k_asm); (case uk => first | exact rfl | assumption); (case ud => omega); (case uu => omega)); (case u1 => first | exact no_names | ((with_reducible rename @LT.lt Nat _ _ _ ∧ _ => l9); (with_reducible rename @LT.lt Nat _ _ _ => l8); (repeat (refine offx_cons l8 l9 (fun l9 => ?_))); exact offx_last l8 l9) | (k_all)); (case u2 => first | exact no_names | ((with_reducible rename @LT.lt Nat _ _ _ ∧ _ => l9); (repeat (refine off_cons l9 (fun l9 => ?_))); exact off_last l9) | k_all); rintro r h8 tk8 n8 F8 N8 off8 ⟨y9, ty9, rfl, rfl, e9⟩; rw [hG'.out, hH'.out] at e9; simp only [if_true, if_false, Bool.false_eq_true] at e9; simp only [List.nil_append] at N8; clear off8; (try clear ek); (try clear qk); (try k_sweep)))
  (have fillNow : PySem.Challenge.rw_og0184_01.row.prog = PySem.Challenge.rw_og0184_01.row.prog ∧ hd.heap_39 = hd.heap_39 := (by (k_fill; exact ⟨rfl, rfl⟩)); clear fillNow)
  refine' seg_of (FnIs.at ?ho) ?_
  (case ho => k_is)
  unfold SegAt
  intro mean mg mb dp un gd outer A₀ base h₀ L s Q B X T F hd hu hret; k_fill; have kMark := kstMark
  have N : News h₀ L s.heap [] := no_names
  dsimp only [List.drop]
  k_steps
  exact hret _ _ _ (by assumption)

set_option maxHeartbeats 4000000 in
theorem seg_c {w : World} {b x4 x5 : Array UInt8} {t t4 t5 te : Tok} {ks G H : List Int} {e : Int} {vl : Value} (hb : KBw.bInts b = ks) (hl : ks.length ≤ 100) (hin : ∀ k ∈ ks, 0 ≤ k ∧ k < 256) (e4 : KBw.bInts x4 = G) (e5 : KBw.bInts x5 = H) (hG : lit ks = G) (hH : 60 :: (hexB ks ++ [62]) = H) (hGl : (G.length : Int) = ks.length + 2 + e) :
   Seg w 34 487 6 (fun y => if y = Str.ofString "escapes" then some (.int e te) else if y = Str.ofString "rounded" then some (.bytes x4 t4) else if y = Str.ofString "angled" then some (.bytes x5 t5) else if y = Str.ofString "lone" then some vl else List.lookup y [(Str.ofString "octets", .bytes b t)].reverse) (.bool true) := by
  have hz : b.size ≤ sizeLine := by rw [← KBw.ints_length b, hb, PySem.sizeLine_eq]; omega
  have hhl : (hexB ks).length = 2 * ks.length := by rw [hexB_nib, List.length_map, nib_len]
  obtain ⟨TT, hTT, hTm⟩ : ∃ TT : List Nat, (Txt.join (Str.ofString "") (ks.map (fun k => Txt.item (Str.ofString "0123456789ABCDEF") (k.fdiv 16) ++ Txt.item (Str.ofString "0123456789ABCDEF") (k.fmod 16)))).cps.toList = TT ∧ (TT.map fun k : Nat => (k : Int)) = hexB ks := ⟨_, rfl, text_is hin⟩
  have hTi : KBa.In (TT.map fun k : Nat => (k : Int)) := by rw [hTm]; exact fun k hk => hex_in hb k (List.mem_append_left _ (.tail _ hk))
  have hTl : TT.length = 2 * ks.length := by rw [← hhl, ← hTm, List.length_map]
  have hTn : (TT.map fun k : Nat => (k : Int)).length = 2 * ks.length := by rw [List.length_map, hTl]
  have hTT' := Hold.go hTT
  have hTm' := Hold.go hTm
  clear hTT hTm
  have hG' := Hold.go hG
  have hH' := Hold.go hH
  clear hG hH
  k_with_none
  k_with "MINE w:callWith" => ((with_reducible show wpAny _ _ (callWith _ (Value.builtin _) (_ :: _) (backTo _ (starEach (_ :: _) _)) _) _ _ _); k_dflt (refine callWith_method1 ?_))
  k_with "MINE w:compareOp NotEq ref ref" => (k_here; (with_reducible show wpAny _ _ (compareOp CmpOp.NotEq (Value.ref _) (Value.ref _)) _ _ _); k_dflt (first
  | (refine' ne_tup2 ?w8N ?w8a ?w8b ?w8u ?w8e1 ?w8e2 ?_; (case w8N => k_asm); (case w8a => k_mem); (case w8b => k_mem); (case w8u => units_room); (case w8e1 => first | exact at_bytes (by assumption) (by assumption) | exact at_int (by first | rfl | omega) | exact at_str (by rfl)); (case w8e2 => first | exact at_bytes (by assumption) (by assumption) | exact at_int (by first | rfl | omega) | exact at_str (by rfl)); k_whole)
  | (refine' ne_tup3 ?w8N ?w8a ?w8b ?w8u ?w8e1 ?w8e2 ?w8e3 ?_; (case w8N => k_asm); (case w8a => k_mem); (case w8b => k_mem); (case w8u => units_room); (case w8e1 => first | exact at_bytes (by assumption) (by assumption) | exact at_int (by first | rfl | omega) | exact at_str (by rfl)); (case w8e2 => first | exact at_bytes (by assumption) (by assumption) | exact at_int (by first | rfl | omega) | exact at_str (by rfl)); (case w8e3 => first | exact at_bytes (by assumption) (by assumption) | exact at_int (by first | rfl | omega) | exact at_str (by rfl)); k_whole)))
  k_with "MINE w:compareOp NotEq bytes bytes" => (k_here; (with_reducible show wpAny _ _ (compareOp CmpOp.NotEq (Value.bytes _ _) (Value.bytes _ _)) _ _ _); k_dflt (refine' ne_bytes_same ?w8b ?w8c ?w8e ?_; (case w8b => first | assumption | rfl | exact KBw.ints_app (by assumption) (by first | assumption | rfl) | exact KBw.ints_app (by rfl) (by assumption)); (case w8c => first | assumption | rfl | exact KBw.ints_app (by assumption) (by first | assumption | rfl) | exact KBw.ints_app (by rfl) (by assumption)); (case w8e => first | rfl | exact lit_first _ | k_extra "MINE same"); k_whole))
  k_with "MINE w:compareOp Eq bytes bytes" => (k_here; (with_reducible show wpAny _ _ (compareOp CmpOp.Eq (Value.bytes _ _) (Value.bytes _ _)) _ _ _); k_dflt (refine' eq_bytes_same ?w8b ?w8c ?w8e ?_; (case w8b => first | assumption | rfl | exact KBw.ints_app (by assumption) (by first | assumption | rfl) | exact KBw.ints_app (by rfl) (by assumption)); (case w8c => first | assumption | rfl | exact KBw.ints_app (by assumption) (by first | assumption | rfl) | exact KBw.ints_app (by rfl) (by assumption)); (case w8e => first | rfl | exact lit_first _ | k_extra "MINE same"); k_whole))
  k_with "MINE comp" => (k_here; (with_reducible show wpAny _ _ (eval (.ListComp (.Call _ _ _ _) [⟨_, _, [], _⟩] _ _) _) _ _ _); k_dflt (refine ListComp_US (F₀ := by k_asm) (by with_unfolding_all rfl) (by decide) (by rfl) (by decide) (by rfl) ?_))
  k_with "MINE comp" => (k_here; (with_reducible show wpAny _ _ (eval (.ListComp (.BinOp _ _ _ _) [⟨_, _, [], _⟩] _ _) _) _ _ _); k_dflt (refine ListComp_UB (F₀ := by k_asm) (by with_unfolding_all rfl) (by decide) (by rfl) (by decide) (by rfl) ?_))
  k_with "MINE src" => (k_dflt (refine' src_sign (ks := TT) hTT'.out (by rfl) (by k_asm) (by k_asm) (by rw [PySem.sizeLine_eq]; omega) (fun g' k' t' I' oI' C' oC' D' m' ys' h' tk' E' hk' hI' hx' F' N' off' ne' => ?turnU) (fun g' => ?_)); (all_goals (try (simp only [LCg.Off3, and_true] at off'))); (all_goals (try ((show KPfMark → _); intro hMark'))))
  k_with "MINE tobytes" => (k_dflt (refine' to_bytes ?F ?N rfl (List.Mem.head _) rfl ?i hTi ?z ?_; (case F => k_asm); (case N => k_asm); (case i => assumption); (case z => omega); intro h9 t9 k9 x9 F9 N9 e9))
  k_with "MINE src" => (k_dflt (refine' src_text (fun k => Txt.item (Str.ofString "0123456789ABCDEF") (k.fdiv 16) ++ Txt.item (Str.ofString "0123456789ABCDEF") (k.fmod 16)) hb (by rfl) (by k_asm) (by k_asm) hz (fun g' k' t' I' oI' C' oC' D' m' ys' h' tk' E' hk' hI' hx' F' N' off' ne' => ?turnT) (fun g' => ?_)); (all_goals (try (simp only [LCg.Off3, and_true] at off'))); (all_goals (try ((show KPfMark → _); intro hMark'; obtain ⟨lo', hi'⟩ := hin _ hk'))))
  k_with "MINE same" => (first | (rw [← hH'.out, ← hTm'.out]; rfl) | exact hH'.out | exact hH'.out.symm)
  k_with "MINE execs" => ((with_reducible show wpAny _ _ (execs (_ :: [_]) _) _ _ _); k_dflt (refine' (seg_d hb hl e4 e5 hG'.out hH'.out hGl).use (FnIs.at ?ho) ?e ?uB ?uX ?uT ?uF ?ud ?uu ?_; (case ho => k_is); (case e => rfl); (case uB => k_asm); (case uX => k_asm); (case uT => k_asm); (case uF => k_asm); (case ud => omega); (case uu => omega); (intro h7 tk7 m7 F7; exact hret _ _ _ F7)))
  (have fillNow : PySem.Challenge.rw_og0184_01.row.prog = PySem.Challenge.rw_og0184_01.row.prog ∧ hd.heap_39 = hd.heap_39 := (by (k_fill; exact ⟨rfl, rfl⟩)); clear fillNow)
  refine' seg_of (FnIs.at ?ho) ?_
  (case ho => k_is)
  unfold SegAt
  intro mean mg mb dp un gd outer A₀ base h₀ L s Q B X T F hd hu hret; k_fill; have kMark := kstMark
  have N : News h₀ L s.heap [] := no_names
  dsimp only [List.drop]
  k_steps

theorem next_lit_v {w : World} {b : Array UInt8} {t k1 k2 k3 t2 t3 : Tok} {x d : Addr} {ks E : List Int} (hb : KBw.bInts b = E) (hE : lit ks ++ [55] = E) (hl : ks.length ≤ 100) (hin : ∀ k ∈ ks, 0 ≤ k ∧ k < 256) (hxd : @Ne Nat x d) {n : Nat} (hn : n = E.length) :
   Contract w 28 422 [.ref x] [(x, instObj 182 d), (d, (dictOf [{ hash := PyData.keyHash w.params (Str.ofString "data"), key := .str (Str.ofString "data") k1, val := .bytes b t }, { hash := PyData.keyHash w.params (Str.ofString "at"), key := .str (Str.ofString "at") k2, val := .int 0 t2 }, { hash := PyData.keyHash w.params (Str.ofString "end"), key := .str (Str.ofString "end") k3, val := .int (n : Int) t3 }] 3))] (fun r n => ∃ a y ts ty ti, r = .ref a ∧ n = [(a, { cls := .type "tuple", data := .seq #[.str (Str.ofString "string") ts, .bytes y ty, .int 0 ti] })] ∧ KBw.bInts y = ks) := by
  subst hn
  exact next_lit_t hb hE hl hin hxd rfl
theorem next_hex_v {w : World} {b : Array UInt8} {t k1 k2 k3 t2 t3 : Tok} {x d : Addr} {ks E : List Int} (hb : KBw.bInts b = E) (hE : 32 :: 60 :: (hexB ks ++ [62]) = E) (hl : ks.length ≤ 100) (hin : ∀ k ∈ ks, 0 ≤ k ∧ k < 256) (hxd : @Ne Nat x d) {n : Nat} (hn : n = E.length) :
   Contract w 28 422 [.ref x] [(x, instObj 182 d), (d, (dictOf [{ hash := PyData.keyHash w.params (Str.ofString "data"), key := .str (Str.ofString "data") k1, val := .bytes b t }, { hash := PyData.keyHash w.params (Str.ofString "at"), key := .str (Str.ofString "at") k2, val := .int 0 t2 }, { hash := PyData.keyHash w.params (Str.ofString "end"), key := .str (Str.ofString "end") k3, val := .int (n : Int) t3 }] 3))] (fun r n => ∃ a y ts ty ti, r = .ref a ∧ n = [(a, { cls := .type "tuple", data := .seq #[.str (Str.ofString "hex") ts, .bytes y ty, .int 1 ti] })] ∧ KBw.bInts y = ks) := by
  subst hn
  exact next_hex_t hb hE hl hin hxd rfl
set_option maxHeartbeats 4000000 in
theorem seg_b {w : World} {b x4 x5 : Array UInt8} {t t4 t5 te : Tok} {ks G H : List Int} {e : Int} {vl : Value} (hb : KBw.bInts b = ks) (hl : ks.length ≤ 100) (hin : ∀ k ∈ ks, 0 ≤ k ∧ k < 256) (e4 : KBw.bInts x4 = G) (e5 : KBw.bInts x5 = H) (hG : lit ks = G) (hH : 60 :: (hexB ks ++ [62]) = H) (hGl : (G.length : Int) = ks.length + 2 + e) :
   Seg w 40 487 5 (fun y => if y = Str.ofString "escapes" then some (.int e te) else if y = Str.ofString "rounded" then some (.bytes x4 t4) else if y = Str.ofString "angled" then some (.bytes x5 t5) else if y = Str.ofString "lone" then some vl else List.lookup y [(Str.ofString "octets", .bytes b t)].reverse) (.bool true) := by
  have hz : b.size ≤ sizeLine := by rw [← KBw.ints_length b, hb, PySem.sizeLine_eq]; omega
  have hGz : G.length ≤ 300 := by have := lit_length ks; rw [← hG]; omega
  have hHz : H.length ≤ 300 := by rw [← hH, hexB_nib]; simp only [List.length_cons, List.length_append, List.length_nil, List.length_map, nib_len]; omega
  have hG' := Hold.go hG
  have hH' := Hold.go hH
  clear hG hH
  k_with_none
  k_with "MINE w:callWith" => ((with_reducible show wpAny _ _ (callWith _ (Value.builtin _) (_ :: _) (backTo _ (starEach (_ :: _) _)) _) _ _ _); k_dflt (refine callWith_method1 ?_))
  k_with "MINE w:compareOp NotEq ref ref" => (k_here; (with_reducible show wpAny _ _ (compareOp CmpOp.NotEq (Value.ref _) (Value.ref _)) _ _ _); k_dflt (first
  | (refine' ne_tup2 ?w8N ?w8a ?w8b ?w8u ?w8e1 ?w8e2 ?_; (case w8N => k_asm); (case w8a => k_mem); (case w8b => k_mem); (case w8u => units_room); (case w8e1 => first | exact at_bytes (by assumption) (by assumption) | exact at_int (by first | rfl | omega) | exact at_str (by rfl)); (case w8e2 => first | exact at_bytes (by assumption) (by assumption) | exact at_int (by first | rfl | omega) | exact at_str (by rfl)); k_whole)
  | (refine' ne_tup3 ?w8N ?w8a ?w8b ?w8u ?w8e1 ?w8e2 ?w8e3 ?_; (case w8N => k_asm); (case w8a => k_mem); (case w8b => k_mem); (case w8u => units_room); (case w8e1 => first | exact at_bytes (by assumption) (by assumption) | exact at_int (by first | rfl | omega) | exact at_str (by rfl)); (case w8e2 => first | exact at_bytes (by assumption) (by assumption) | exact at_int (by first | rfl | omega) | exact at_str (by rfl)); (case w8e3 => first | exact at_bytes (by assumption) (by assumption) | exact at_int (by first | rfl | omega) | exact at_str (by rfl)); k_whole)))
  k_with "MINE w:compareOp NotEq bytes bytes" => (k_here; (with_reducible show wpAny _ _ (compareOp CmpOp.NotEq (Value.bytes _ _) (Value.bytes _ _)) _ _ _); k_dflt (refine' ne_bytes_same ?w8b ?w8c ?w8e ?_; (case w8b => first | assumption | rfl | exact KBw.ints_app (by assumption) (by first | assumption | rfl) | exact KBw.ints_app (by rfl) (by assumption)); (case w8c => first | assumption | rfl | exact KBw.ints_app (by assumption) (by first | assumption | rfl) | exact KBw.ints_app (by rfl) (by assumption)); (case w8e => first | rfl | exact lit_first _ | k_extra "MINE same"); k_whole))
  k_with "MINE w:compareOp Eq bytes bytes" => (k_here; (with_reducible show wpAny _ _ (compareOp CmpOp.Eq (Value.bytes _ _) (Value.bytes _ _)) _ _ _); k_dflt (refine' eq_bytes_same ?w8b ?w8c ?w8e ?_; (case w8b => first | assumption | rfl | exact KBw.ints_app (by assumption) (by first | assumption | rfl) | exact KBw.ints_app (by rfl) (by assumption)); (case w8c => first | assumption | rfl | exact KBw.ints_app (by assumption) (by first | assumption | rfl) | exact KBw.ints_app (by rfl) (by assumption)); (case w8e => first | rfl | exact lit_first _ | k_extra "MINE same"); k_whole))
  k_with "MINE ite" => (k_dflt (first | refine ite_pos (decide_eq_true (by omega)) ?_ | refine ite_neg (fun h => absurd (of_decide_eq_true h) (by omega)) ?_))
  k_with "MINE call" => ((with_reducible show wpAny _ _ (call (Value.ref 422) _) _ _ _); k_dflt (first
    | (refine' (next_lit_v (ks := ks) (show KBw.bInts (x4 ++ #[55]) = G ++ [55] from KBw.ints_app e4 (by rfl)) (congrArg (· ++ [55]) hG'.out) hl hin ?uxd ?un).use [] ?uB ?uF ?uX ?uN ?uT ?uk ?ud ?uu ?us ?ur ?uo ?_; ((case uB => k_asm); (case uF => k_asm); (case uX => k_asm); (case uN => k_asm); (case uT => k_asm); (case uk => first | exact rfl | assumption); (case ud => omega); (case uu => omega)); (case us => exact List.forall_mem_cons.2 ⟨by k_mem, List.forall_mem_cons.2 ⟨by k_mem, fun _ h => nomatch h⟩⟩); (case uxd => with_reducible k_ne); (case un => first | (simp only [List.length_append, List.length_cons, List.length_nil]; done) | (simp only [List.length_append, List.length_cons, List.length_nil]; omega)); (case ur => exact fun _ h => nomatch h); (case uo => exact fun _ h => nomatch h); rintro r h8 tk8 n8 F8 N8 off8 ⟨a8, y8, ts8, ty8, ti8, rfl, rfl, e8⟩; simp only [List.cons_append, List.nil_append] at N8; clear off8; (repeat ((with_reducible rename @LT.lt Nat _ _ _ ∧ _ => z9); clear z9)); (try clear ek); (try clear qk); (try k_sweep))
    | (refine' (next_hex_v (ks := ks) (show KBw.bInts (#[32] ++ x5) = 32 :: H from KBw.ints_app (by rfl) e5) (congrArg (32 :: ·) hH'.out) hl hin ?uxd ?un).use [] ?uB ?uF ?uX ?uN ?uT ?uk ?ud ?uu ?us ?ur ?uo ?_; ((case uB => k_asm); (case uF => k_asm); (case uX => k_asm); (case uN => k_asm); (case uT => k_asm); (case uk => first | exact rfl | assumption); (case ud => omega); (case uu => omega)); (case us => exact List.forall_mem_cons.2 ⟨by k_mem, List.forall_mem_cons.2 ⟨by k_mem, fun _ h => nomatch h⟩⟩); (case uxd => with_reducible k_ne); (case un => first | (simp only [List.length_append, List.length_cons, List.length_nil]; done) | (simp only [List.length_append, List.length_cons, List.length_nil]; omega)); (case ur => exact fun _ h => nomatch h); (case uo => exact fun _ h => nomatch h); rintro r h8 tk8 n8 F8 N8 off8 ⟨a8, y8, ts8, ty8, ti8, rfl, rfl, e8⟩; simp only [List.cons_append, List.nil_append] at N8; clear off8; (repeat ((with_reducible rename @LT.lt Nat _ _ _ ∧ _ => z9); clear z9)); (try clear ek); (try clear qk); (try k_sweep))))
  k_with "MINE execs" => ((with_reducible show wpAny _ _ (execs (_ :: _ :: _ :: [_]) _) _ _ _); k_dflt (refine' (seg_c hb hl hin e4 e5 hG'.out hH'.out hGl).use (FnIs.at ?ho) ?e ?uB ?uX ?uT ?uF ?ud ?uu ?_; (case ho => k_is); (case e => rfl); (case uB => k_asm); (case uX => k_asm); (case uT => k_asm); (case uF => k_asm); (case ud => omega); (case uu => omega); (intro h7 tk7 m7 F7; exact hret _ _ _ F7)))
  (have fillNow : PySem.Challenge.rw_og0184_01.row.prog = PySem.Challenge.rw_og0184_01.row.prog ∧ hd.heap_39 = hd.heap_39 := (by (k_fill; exact ⟨rfl, rfl⟩)); clear fillNow)
  refine' seg_of (FnIs.at ?ho) ?_
  (case ho => k_is)
  unfold SegAt
  intro mean mg mb dp un gd outer A₀ base h₀ L s Q B X T F hd hu hret; k_fill; have kMark := kstMark
  have N : News h₀ L s.heap [] := no_names
  dsimp only [List.drop]
  k_steps

theorem keys_short {ks : List Int} (h : ks.length ≤ 40) : ((lbAt ks ks.length).2 ++ (lbAt ks ks.length).1).length < 64 := by
  rw [(keys_perm ks).length_eq, ← loneTo_all]
  have := loneTo_len ks ks.length
  omega
theorem keys_sorted {ks ns : List Int} (p : ns.Perm ((lbAt ks ks.length).2 ++ (lbAt ks ks.length).1)) (o : ns.Pairwise (· ≤ ·)) : ns = loneTo ks ks.length := by
  rw [loneTo_all]
  exact sorted_unique (p.trans (keys_perm ks)) o (loneL_sorted ks 0 0)
theorem esc_grows : KPfGrows (fun l k => if k = 92 ∨ k = 13 then l ++ [k] else l) := by
  intro l k
  dsimp only
  split
  · simp
  · omega
theorem esc_yes {l : List Int} {k : Int} (h : ([92, 13].any fun x => x == k) = true) : (if k = 92 ∨ k = 13 then l ++ [k] else l) = l ++ [k] := by
  simp at h
  exact if_pos (by omega)
theorem esc_no {l : List Int} {k : Int} (h : ([92, 13].any fun x => x == k) = false) : (if k = 92 ∨ k = 13 then l ++ [k] else l) = l := by
  simp at h
  exact if_neg (by omega)
set_option maxHeartbeats 4000000 in
theorem string_holds_t {w : World} {b : Array UInt8} {t : Tok} {ks : List Int} (hb : KBw.bInts b = ks) (hl0 : ks.length ≤ 40) (hin : ∀ k ∈ ks, 0 ≤ k ∧ k < 256) :
   Contract w 60 487 [.bytes b t] [] (fun r n => r = .bool true ∧ n = []) := by
  have hl : ks.length ≤ 100 := by omega
  have hlo : (loneTo ks ks.length).length ≤ ks.length := loneTo_len ks ks.length
  have hz : b.size ≤ sizeLine := by rw [← KBw.ints_length b, hb, PySem.sizeLine_eq]; omega
  obtain ⟨es, he, hel, heq⟩ := escs_is ks
  have he' := Hold.go he
  clear he
  obtain ⟨H, hH, l5⟩ : ∃ H, 60 :: (hexB ks ++ [62]) = H ∧ H.length = 2 * ks.length + 2 := ⟨_, rfl, by rw [hexB_nib]; simp only [List.length_cons, List.length_append, List.length_nil, List.length_map, nib_len]⟩
  have hH' := Hold.go hH
  clear hH
  k_with_none
  k_with "MINE w:callWith" => ((with_reducible show wpAny _ _ (callWith _ (Value.builtin _) (_ :: _) (backTo _ (starEach (_ :: _) _)) _) _ _ _); k_dflt (refine callWith_method1 ?_))
  k_with "MINE w:compareOp NotEq ref ref" => (k_here; (with_reducible show wpAny _ _ (compareOp CmpOp.NotEq (Value.ref _) (Value.ref _)) _ _ _); k_dflt (first
  | (refine' ne_tup2 ?w8N ?w8a ?w8b ?w8u ?w8e1 ?w8e2 ?_; (case w8N => k_asm); (case w8a => k_mem); (case w8b => k_mem); (case w8u => units_room); (case w8e1 => first | exact at_bytes (by assumption) (by assumption) | exact at_int (by first | rfl | omega) | exact at_str (by rfl)); (case w8e2 => first | exact at_bytes (by assumption) (by assumption) | exact at_int (by first | rfl | omega) | exact at_str (by rfl)); k_whole)
  | (refine' ne_tup3 ?w8N ?w8a ?w8b ?w8u ?w8e1 ?w8e2 ?w8e3 ?_; (case w8N => k_asm); (case w8a => k_mem); (case w8b => k_mem); (case w8u => units_room); (case w8e1 => first | exact at_bytes (by assumption) (by assumption) | exact at_int (by first | rfl | omega) | exact at_str (by rfl)); (case w8e2 => first | exact at_bytes (by assumption) (by assumption) | exact at_int (by first | rfl | omega) | exact at_str (by rfl)); (case w8e3 => first | exact at_bytes (by assumption) (by assumption) | exact at_int (by first | rfl | omega) | exact at_str (by rfl)); k_whole)))
  k_with "MINE w:compareOp NotEq bytes bytes" => (k_here; (with_reducible show wpAny _ _ (compareOp CmpOp.NotEq (Value.bytes _ _) (Value.bytes _ _)) _ _ _); k_dflt (refine' ne_bytes_same ?w8b ?w8c ?w8e ?_; (case w8b => first | assumption | rfl | exact KBw.ints_app (by assumption) (by first | assumption | rfl) | exact KBw.ints_app (by rfl) (by assumption)); (case w8c => first | assumption | rfl | exact KBw.ints_app (by assumption) (by first | assumption | rfl) | exact KBw.ints_app (by rfl) (by assumption)); (case w8e => first | rfl | exact lit_first _ | k_extra "MINE same"); k_whole))
  k_with "MINE w:compareOp Eq bytes bytes" => (k_here; (with_reducible show wpAny _ _ (compareOp CmpOp.Eq (Value.bytes _ _) (Value.bytes _ _)) _ _ _); k_dflt (refine' eq_bytes_same ?w8b ?w8c ?w8e ?_; (case w8b => first | assumption | rfl | exact KBw.ints_app (by assumption) (by first | assumption | rfl) | exact KBw.ints_app (by rfl) (by assumption)); (case w8c => first | assumption | rfl | exact KBw.ints_app (by assumption) (by first | assumption | rfl) | exact KBw.ints_app (by rfl) (by assumption)); (case w8e => first | rfl | exact lit_first _ | k_extra "MINE same"); k_whole))
  k_with "MINE ite" => (k_dflt (first | refine ite_pos (decide_eq_true (by omega)) ?_ | refine ite_neg (fun h => absurd (of_decide_eq_true h) (by omega)) ?_))
  k_with "MINE comp" => (k_here; (with_reducible show wpAny _ _ (eval (.ListComp _ [⟨_, _, [_], _⟩] _ _) _) _ _ _); k_dflt (refine ListComp_TB (F₀ := by k_asm) (by with_unfolding_all rfl) (by decide) (by rfl) (by decide) (by rfl) ?_))
  k_with "MINE src" => (k_dflt (refine' src_if (fun l k => if k = 92 ∨ k = 13 then l ++ [k] else l) hb (by rfl) (by k_asm) (by k_asm) hz (fun g' k' t' I' oI' C' oC' D' m' ys' l' h' tk' E' hk' hI' hC' hx' F' N' off' ne' => ?turn) (fun g' => ?_) esc_grows); (all_goals (try (simp only [LCg.Off3, and_true] at off'))); (all_goals (try ((show KPfMark → _); intro hMark'))))
  k_with "MINE cend" => (k_dflt (first | (refine LCg.CompEnd.intro (by k_asm) (by k_asm) _ (by kcf_all) (by first | assumption | (simp only [LCg.Off3, and_true]; done) | (simp only [LCg.Off3, and_true]; assumption)) True.intro (kci_el ?_ rfl rfl); exact esc_yes (by assumption)) | (refine LCg.CompEnd.intro (by k_asm) (by k_asm) _ (by kcf_all) (by first | assumption | (simp only [LCg.Off3, and_true]; done) | (simp only [LCg.Off3, and_true]; assumption)) True.intro (kci_no ?_ rfl); exact esc_no (by assumption))))
  k_with "MINE done" => (unfold KPfDone; intro yD hID hLD; unfold LCg.FinE; intro D h' tk' F' N' off1; clear off1 hLD; rw [he'.out] at hID; have hLD := hID.length; (try simp only [List.cons_append, List.nil_append] at N'); (replace N' : News _ _ h' ((D, W.listOf yD.toArray yD.length) :: _) := N'))
  k_with "MINE sorted" => (k_dflt (refine' sorted_tts rfl ?F ?N (List.Mem.head _) lo2 dd2 ff2 ?z ?_; (case F => k_asm); (case N => k_asm); (case z => exact keys_short hl0); intro D3 vs3 ns3 c3 h3 tk3 F3 N3 l3 i3 p3 o3; have e3 := keys_sorted p3 o3; subst e3; k_lt l3))
  k_with "MINE call" => ((with_reducible show wpAny _ _ (call (Value.ref 475) _) _ _ _); k_dflt (refine' (lone_law_t hb hl).use0 ?uB ?uF ?uX ?uN ?uT ?uk ?ud ?uu ?_; ((case uB => k_asm); (case uF => k_asm); (case uX => k_asm); (case uN => k_asm); (case uT => k_asm); (case uk => first | exact rfl | assumption); (case ud => omega); (case uu => omega)); rintro r h1 tk1 n1 F1 N1 off1 ⟨a1, vs1, c1, rfl, rfl, i1⟩; simp only [List.cons_append, List.nil_append] at N1; (try clear ek); (try clear qk); (try k_sweep)))
  k_with "MINE call" => ((with_reducible show wpAny _ _ (call (Value.ref 35) _) _ _ _); k_dflt (refine' (lone_t hb hl).use0 ?uB ?uF ?uX ?uN ?uT ?uk ?ud ?uu ?_; ((case uB => k_asm); (case uF => k_asm); (case uX => k_asm); (case uN => k_asm); (case uT => k_asm); (case uk => first | exact rfl | assumption); (case ud => omega); (case uu => omega)); rintro r h2 tk2 n2 F2 N2 off2 ⟨d2, o2, kv2, rfl, rfl, lo2, dd2, ff2⟩; simp only [List.cons_append, List.nil_append] at N2; have e2 : @Ne Nat d2 a1 := off2 (d2, _) (List.Mem.head _) (a1, _) (List.Mem.head _); (try clear ek); (try clear qk); (try k_sweep)))
  k_with "MINE call" => ((with_reducible show wpAny _ _ (call (Value.ref 42) _) _ _ _); k_dflt (refine' (literal_octets_t hb hl).use0 ?uB ?uF ?uX ?uN ?uT ?uk ?ud ?uu ?_; ((case uB => k_asm); (case uF => k_asm); (case uX => k_asm); (case uN => k_asm); (case uT => k_asm); (case uk => first | exact rfl | assumption); (case ud => omega); (case uu => omega)); rintro r h4 tk4 n4 F4 N4 off4 ⟨x4, t4, rfl, e4, rfl⟩; simp only [List.nil_append] at N4; clear off4; (try clear ek); (try clear qk); (try k_sweep)))
  k_with "MINE call" => ((with_reducible show wpAny _ _ (call (Value.ref 49) _) _ _ _); k_dflt (refine' (hex_octets_t hb hl).use0 ?uB ?uF ?uX ?uN ?uT ?uk ?ud ?uu ?_; ((case uB => k_asm); (case uF => k_asm); (case uX => k_asm); (case uN => k_asm); (case uT => k_asm); (case uk => first | exact rfl | assumption); (case ud => omega); (case uu => omega)); rintro r h5 tk5 n5 F5 N5 off5 ⟨x5, t5, rfl, e5, rfl⟩; rw [hH'.out] at e5; simp only [List.nil_append] at N5; clear off5; (try clear ek); (try clear qk); (try k_sweep)))
  k_with "MINE call" => ((with_reducible show wpAny _ _ (call (Value.ref 482) _) _ _ _); k_dflt (refine' (law_read_t e4 hl hin).use0 ?uB ?uF ?uX ?uN ?uT ?uk ?ud ?uu ?_; ((case uB => k_asm); (case uF => k_asm); (case uX => k_asm); (case uN => k_asm); (case uT => k_asm); (case uk => first | exact rfl | assumption); (case ud => omega); (case uu => omega)); rintro r h6 tk6 n6 F6 N6 off6 ⟨a6, x6, t6, tl6, rfl, rfl, e6⟩; simp only [List.cons_append, List.nil_append] at N6; (try clear ek); (try clear qk); (try k_sweep)))
  k_with "MINE execs" => ((with_reducible show wpAny _ _ (execs (_ :: _ :: _ :: _ :: [_]) _) _ _ _); k_dflt (refine' (seg_b (w := w) hb hl hin e4 e5 rfl hH'.out ?gl).use (FnIs.at ?ho) ?e ?uB ?uX ?uT ?uF ?ud ?uu ?_; (case ho => k_is); (case e => rfl); (case uB => k_asm); (case uX => k_asm); (case uT => k_asm); (case uF => k_asm); (case ud => omega); (case uu => omega); (case gl => omega); (intro h7 tk7 m7 F7; exact hret _ _ _ _ [] F7 no_names ⟨rfl, rfl⟩)))
  (have fillNow : PySem.Challenge.rw_og0184_01.row.prog = PySem.Challenge.rw_og0184_01.row.prog ∧ hd.heap_39 = hd.heap_39 := (by (k_fill; exact ⟨rfl, rfl⟩)); clear fillNow)
  refine' contract_of [(Str.ofString "octets", .bytes b t)] ?ho ?hcd ?hb ?hl ?h1 ?h2 ?h3 ?h4 ?_
  ((case ho => k_is); (case hcd => k_is); (case hb => intro s hX; exact BindsTo.of_eq rfl); (case hl => exact locs rfl); (case h1 => exact rfl); (case h2 => exact rfl); (case h3 => exact rfl); (case h4 => decide); k_whole; unfold Body)
  intro mean mg mb dp un gd outer A₀ base h₀ L s Q B X T F N hd hu hret hnone; k_fill; have kMark := kstMark
  k_steps
  all_goals (exact absurd ‹_ ≠ _› (by omega))

theorem names_ok : namesOk hd.view_39 (looseW hd.view_39 [Str.ofString "PaperError", Str.ofString "name_text"]) (namesW hd.view_39 [Str.ofString "PaperError", Str.ofString "name_text"]) = true := by kernel_rfl
theorem no_imports : importsNone hd.view_39 = true := by kernel_rfl
-- the law is entered: as the library's line does it, the two looks proved apart
local macro_rules | `(tactic| walk_at "MINE go0") => `(tactic| (
  k_fill
  intro w s₀ s₁ mg mb G Y fa o pm cd doc dV kV ho hd hcd hD hmg hg args vals as hpre hlay hrd hwl hlo
  have KX := kIn_of Y
  have X := (Ground.X G).1
  have V := (Ground.X G).2
  have GL := glob_more (Ground.glob G names_ok no_imports) V
  refine Ground.open G ?_
  intro T B D TE TW
  try (refine guard_noD D (by decide +kernel) ?_; clear D)
  obtain ⟨_, _, M⟩ := bmod_of_top T
  have TA := at_of_top T
  try (obtain ⟨_, _, he, B0⟩ := based_of_top T rfl hmg ho hd; have he' : cd = _ := he; subst he'; clear he)
  clear hmg
  wrow_args hpre hlay hrd hwl hlo
  all_goals (
    first | refine callC_kw (enter_call ?_) | refine enter_call ?_ | refine callC_kw (enter_callW ?_) | refine enter_callW ?_ | w_how
    w_top on
    try refine codeAny_mono ?_ (fun _ _ g => GoodW.toG g)
    have K0 := below_caller (Top.heap T)
    w_call any ho hd hcd hD T F
    clear hd TA
    k_drop
    skip)))


theorem cell_in {l : List Int} : ∀ k ∈ l.map (fun k' => (2 * if k' < 0 then -k' else k') + if decide (k' < 0) = true then 1 else 0), 0 ≤ k := by
  intro k hk
  obtain ⟨x, _, rfl⟩ := List.mem_map.mp hk
  split <;> split <;> omega

set_option maxHeartbeats 900000 in
theorem tl : PySem.Challenge.rw_og0184_01.Holds := Mine.hd rfl rfl rfl (by
  k_with_none
  k_with "MINE w:callWith" => ((with_reducible show wpAny _ _ (callWith _ (Value.builtin _) (_ :: _) (backTo _ (starEach (_ :: _) _)) _) _ _ _); k_dflt (refine callWith_method1 ?_))
  k_with "MINE w:compareOp NotEq ref ref" => (k_here; (with_reducible show wpAny _ _ (compareOp CmpOp.NotEq (Value.ref _) (Value.ref _)) _ _ _); k_dflt (first
  | (refine' ne_tup2 ?w8N ?w8a ?w8b ?w8u ?w8e1 ?w8e2 ?_; (case w8N => k_asm); (case w8a => k_mem); (case w8b => k_mem); (case w8u => units_room); (case w8e1 => first | exact at_bytes (by assumption) (by assumption) | exact at_int (by first | rfl | omega) | exact at_str (by rfl)); (case w8e2 => first | exact at_bytes (by assumption) (by assumption) | exact at_int (by first | rfl | omega) | exact at_str (by rfl)); k_whole)
  | (refine' ne_tup3 ?w8N ?w8a ?w8b ?w8u ?w8e1 ?w8e2 ?w8e3 ?_; (case w8N => k_asm); (case w8a => k_mem); (case w8b => k_mem); (case w8u => units_room); (case w8e1 => first | exact at_bytes (by assumption) (by assumption) | exact at_int (by first | rfl | omega) | exact at_str (by rfl)); (case w8e2 => first | exact at_bytes (by assumption) (by assumption) | exact at_int (by first | rfl | omega) | exact at_str (by rfl)); (case w8e3 => first | exact at_bytes (by assumption) (by assumption) | exact at_int (by first | rfl | omega) | exact at_str (by rfl)); k_whole)))
  k_with "MINE w:compareOp NotEq bytes bytes" => (k_here; (with_reducible show wpAny _ _ (compareOp CmpOp.NotEq (Value.bytes _ _) (Value.bytes _ _)) _ _ _); k_dflt (refine' ne_bytes_same ?w8b ?w8c ?w8e ?_; (case w8b => first | assumption | rfl | exact KBw.ints_app (by assumption) (by first | assumption | rfl) | exact KBw.ints_app (by rfl) (by assumption)); (case w8c => first | assumption | rfl | exact KBw.ints_app (by assumption) (by first | assumption | rfl) | exact KBw.ints_app (by rfl) (by assumption)); (case w8e => first | rfl | exact lit_first _ | k_extra "MINE same"); k_whole))
  k_with "MINE w:compareOp Eq bytes bytes" => (k_here; (with_reducible show wpAny _ _ (compareOp CmpOp.Eq (Value.bytes _ _) (Value.bytes _ _)) _ _ _); k_dflt (refine' eq_bytes_same ?w8b ?w8c ?w8e ?_; (case w8b => first | assumption | rfl | exact KBw.ints_app (by assumption) (by first | assumption | rfl) | exact KBw.ints_app (by rfl) (by assumption)); (case w8c => first | assumption | rfl | exact KBw.ints_app (by assumption) (by first | assumption | rfl) | exact KBw.ints_app (by rfl) (by assumption)); (case w8e => first | rfl | exact lit_first _ | k_extra "MINE same"); k_whole))
  k_with "MINE call" => ((fail_if_success (with_reducible show wpAny _ _ (call (Value.ref 449) _) _ _ _)); refine hold_of ?_)
  walk_at "MINE go0"
  all_goals try k_fold
  k_steps
  refine Hold.go ?_
  rename IntsAre _ (List.map _ (List.take 40 _)) => hI
  rename News _ _ _ _ => N9
  rename @LT.lt Nat _ _ _ ∧ @LT.lt Nat _ _ _ => l9
  refine' (octets_t (Nat.ne_of_gt l9.1) hI cell_in (Int.le_refl 0) (Int.le_refl 0) ?z).useA ?uB ?uF ?uX ?uN ?uT ?uA ?uf ?uk ?uh ?ud ?uu ?us ?_
  ((case uF => k_asm); (case uN => k_asm); (case uB => k_asm); (case uX => k_asm); (case uT => k_asm); (case uA => exact rfl); (case uf => exact rfl); (case uk => exact rfl); (case uh => exact rfl); (case ud => exact Nat.le_of_ble_eq_true rfl); (case uu => exact Nat.le_of_ble_eq_true rfl))
  (case us => exact List.forall_mem_cons.2 ⟨by k_mem, List.forall_mem_cons.2 ⟨by k_mem, fun _ h => nomatch h⟩⟩)
  (case z => rw [List.length_map, List.length_take]; omega)
  rintro r h1 tk1 n1 F1 N1 ⟨y1, ty1, os1, nn1, x1, cs1, rfl, e1, hl1, hin1, hn1, hx1, hc1, hl1', t11, t12, np1, vs1, nc1, rfl, hi1⟩
  have hpc := Nat.ne_of_gt l9.1
  k_steps
  refine Hold.go ?_
  refine' (octets_t hpc hi1 hc1 hn1 hx1 ?z).useA ?uB ?uF ?uX ?uN ?uT ?uA ?uf ?uk ?uh ?ud ?uu ?us ?_
  ((case uF => k_asm); (case uN => k_asm); (case uB => k_asm); (case uX => k_asm); (case uT => k_asm); (case uA => exact rfl); (case uf => exact rfl); (case uk => exact rfl); (case uh => exact rfl); (case ud => exact Nat.le_of_ble_eq_true rfl); (case uu => exact Nat.le_of_ble_eq_true rfl))
  (case us => exact List.forall_mem_cons.2 ⟨by k_mem, List.forall_mem_cons.2 ⟨by k_mem, fun _ h => nomatch h⟩⟩)
  (case z => rw [List.length_map, List.length_take] at hl1'; omega)
  rintro r h2 tk2 n2 F2 N2 ⟨y2, ty2, os2, nn2, x2, cs2, rfl, e2, hl2, hin2, hn2, hx2, hc2, hl2', t21, t22, np2, vs2, nc2, rfl, hi2⟩
  have hl3 : (os1 ++ os2).length ≤ 32 := by rw [List.length_append]; omega
  have hz1 : (lit os1).length ≤ 300 := by have := lit_length os1; omega
  have hz2 : (lit os2).length ≤ 300 := by have := lit_length os2; omega
  have hz3 : (lit (os1 ++ os2)).length ≤ 300 := by have := lit_length (os1 ++ os2); omega
  have hin3 : ∀ k ∈ os1 ++ os2, 0 ≤ k ∧ k < 256 := fun k hk => (List.mem_append.mp hk).elim (hin1 k) (hin2 k)
  k_with "MINE call" => ((with_reducible show wpAny _ _ (call (Value.ref 487) _) _ _ _); k_dflt (refine' (string_holds_t (ks := os1) e1 (by omega) hin1).useA ?uB ?uF ?uX ?uN ?uT ?uA ?uf ?uk ?uh ?ud ?uu ?us ?_; ((case uF => k_asm); (case uN => k_asm); (case uB => k_asm); (case uX => k_asm); (case uT => k_asm); (case uA => exact rfl); (case uf => exact rfl); (case uk => exact rfl); (case uh => exact rfl); (case ud => exact Nat.le_of_ble_eq_true rfl); (case uu => exact Nat.le_of_ble_eq_true rfl)); (case us => exact fun _ h => nomatch h); rintro r h3 tk3 n3 F3 N3 ⟨rfl, rfl⟩))
  k_with "MINE call" => ((with_reducible show wpAny _ _ (call (Value.ref 487) _) _ _ _); k_dflt (refine' (string_holds_t (ks := os2) e2 (by omega) hin2).useA ?uB ?uF ?uX ?uN ?uT ?uA ?uf ?uk ?uh ?ud ?uu ?us ?_; ((case uF => k_asm); (case uN => k_asm); (case uB => k_asm); (case uX => k_asm); (case uT => k_asm); (case uA => exact rfl); (case uf => exact rfl); (case uk => exact rfl); (case uh => exact rfl); (case ud => exact Nat.le_of_ble_eq_true rfl); (case uu => exact Nat.le_of_ble_eq_true rfl)); (case us => exact fun _ h => nomatch h); rintro r h3 tk3 n3 F3 N3 ⟨rfl, rfl⟩))
  k_with "MINE call" => ((with_reducible show wpAny _ _ (call (Value.ref 487) _) _ _ _); k_dflt (refine' (string_holds_t (ks := os1 ++ os2) (KBw.ints_app e1 e2) (by omega) hin3).useA ?uB ?uF ?uX ?uN ?uT ?uA ?uf ?uk ?uh ?ud ?uu ?us ?_; ((case uF => k_asm); (case uN => k_asm); (case uB => k_asm); (case uX => k_asm); (case uT => k_asm); (case uA => exact rfl); (case uf => exact rfl); (case uk => exact rfl); (case uh => exact rfl); (case ud => exact Nat.le_of_ble_eq_true rfl); (case uu => exact Nat.le_of_ble_eq_true rfl)); (case us => exact fun _ h => nomatch h); rintro r h3 tk3 n3 F3 N3 ⟨rfl, rfl⟩))
  k_with "MINE call" => ((with_reducible show wpAny _ _ (call (Value.ref 475) _) _ _ _); k_dflt (refine' (lone_law_t (ks := os1) e1 (by omega)).useA ?uB ?uF ?uX ?uN ?uT ?uA ?uf ?uk ?uh ?ud ?uu ?us ?_; ((case uF => k_asm); (case uN => k_asm); (case uB => k_asm); (case uX => k_asm); (case uT => k_asm); (case uA => exact rfl); (case uf => exact rfl); (case uk => exact rfl); (case uh => exact rfl); (case ud => exact Nat.le_of_ble_eq_true rfl); (case uu => exact Nat.le_of_ble_eq_true rfl)); (case us => exact fun _ h => nomatch h); rintro r h3 tk3 n3 F3 N3 ⟨a3, vs3, c3, rfl, rfl, i3⟩))
  k_with "MINE call" => ((with_reducible show wpAny _ _ (call (Value.ref 42) _) _ _ _); k_dflt (refine' (literal_octets_t (ks := os1 ++ os2) (KBw.ints_app e1 e2) (by omega)).useA ?uB ?uF ?uX ?uN ?uT ?uA ?uf ?uk ?uh ?ud ?uu ?us ?_; ((case uF => k_asm); (case uN => k_asm); (case uB => k_asm); (case uX => k_asm); (case uT => k_asm); (case uA => exact rfl); (case uf => exact rfl); (case uk => exact rfl); (case uh => exact rfl); (case ud => exact Nat.le_of_ble_eq_true rfl); (case uu => exact Nat.le_of_ble_eq_true rfl)); (case us => exact fun _ h => nomatch h); rintro r h4 tk4 n4 F4 N4 ⟨xA, tA, rfl, eA, rfl⟩))
  k_with "MINE call" => ((with_reducible show wpAny _ _ (call (Value.ref 42) _) _ _ _); k_dflt (refine' (literal_octets_t (ks := os1) e1 (by omega)).useA ?uB ?uF ?uX ?uN ?uT ?uA ?uf ?uk ?uh ?ud ?uu ?us ?_; ((case uF => k_asm); (case uN => k_asm); (case uB => k_asm); (case uX => k_asm); (case uT => k_asm); (case uA => exact rfl); (case uf => exact rfl); (case uk => exact rfl); (case uh => exact rfl); (case ud => exact Nat.le_of_ble_eq_true rfl); (case uu => exact Nat.le_of_ble_eq_true rfl)); (case us => exact fun _ h => nomatch h); rintro r h4 tk4 n4 F4 N4 ⟨xB, tB, rfl, eB, rfl⟩))
  k_with "MINE call" => ((with_reducible show wpAny _ _ (call (Value.ref 42) _) _ _ _); k_dflt (refine' (literal_octets_t (ks := os2) e2 (by omega)).useA ?uB ?uF ?uX ?uN ?uT ?uA ?uf ?uk ?uh ?ud ?uu ?us ?_; ((case uF => k_asm); (case uN => k_asm); (case uB => k_asm); (case uX => k_asm); (case uT => k_asm); (case uA => exact rfl); (case uf => exact rfl); (case uk => exact rfl); (case uh => exact rfl); (case ud => exact Nat.le_of_ble_eq_true rfl); (case uu => exact Nat.le_of_ble_eq_true rfl)); (case us => exact fun _ h => nomatch h); rintro r h4 tk4 n4 F4 N4 ⟨xC, tC, rfl, eC, rfl⟩))
  k_with "MINE same" => exact lit_cut (of_decide_eq_true (by assumption))
  k_steps
  all_goals w_report)

end Mine
end

theorem PySem.Challenge.cw_og0184_01_holds : PySem.Challenge.rw_og0184_01.Holds := by
  exact Mine.tl
