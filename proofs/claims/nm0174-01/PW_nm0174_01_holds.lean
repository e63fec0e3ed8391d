import PyProof.Rows.All
import PyProof.FactsAll.list_3
import PyProof.FactsAll.dict_3
import PyProof.FactsAll.dict_4
import PyProof.CodeObjX
import PyProof.CompFree
import PyProof.Conv_int_bool
import PyProof.Draws
import PyProof.EnumMake
import PyProof.P3Eq
import PyProof.ExcBaseAll.Exception
import PyProof.ExcAttrAll.Exception
import PyProof.RangeFor
import PyProof.InstStoreFacts
import PyProof.Rows.SeqRoads
import PyProof.WalkInts
import PyProof.ZipIter
import PyProof.TupleOfSeq
import KE.BitLaws
import KE.BytesMake
import KE.KItem
import KE.KBytesWalk
import KE.KDictSum
import Wide.FinOn
import OpenK.AllK
import Wide.All
import Lean
import PySem.Challenge.RW_nm0174_01
set_option Elab.async false
set_option maxRecDepth 100000
set_option maxHeartbeats 4000000
set_option linter.all false
set_option genSizeOf false
set_option genInjectivity false
set_option tactic.hygienic false
section
set_option compiler.extract_closed false
namespace Internal
def qqqM : String := "0P48131H121312221512[0[0[0[0[0[0[0[0[0[0[0[0[0[0[0[0>O1226111P2[0Y1V[0[0[0[0[0[0[0[0U13<111211119<355T11111111111111111111111111111111111111111111111111111111111111111111111111111111111111233Q4461434;1=2616272<31581[0[0B2211251114173@112721372H141:14111311231:121223291@112C1421111@1113231=1226171615381214282[06153:1>1@331447Q;1L525>171B2?1C1:19141:1226152S11112422151[0U12131B25511[0K4221181916131123122>121T1[0<1D1<1F4[051?2T231@13244<5254321:17281Q"
def qqqT : Std.HashMap String String := ("y int;D List;F st;G some;H rfl;I Nat;J lay;K Int;L none;M heap;N ref;O objs;T loc;U length;X tup;Y ok;Z obj;aa raw;ab env;ac za0;ad lst;ae Shared;af Value;ag str;ah fmod;ai Heap;aj map;ak elim;al Bool;am Str;an size;ao get?;aq byDE;ar Option;au stk;av byKR;ay Params;az list;aA Obj;aB type;aC more;aD rest;aE inr;aG up1;aI Addr;aJ toNat;aK Rel;aL fdiv;aO mem;aP items;aQ cons;aR nil;aU pos;aV trans;aW Lay;aX call;aY wpAny;a0 Expr;a1 toks;a2 sub;a4 inl;a7 bin;a8 exc;bb this;bc prog;bd za1;be UInt8;bf data;bg wpAny_bind;bh model;bi symm;bj cls;bk ret;bn mpr;bo Mod;bp bool;bq names;br rep;bt scope;bv inst;bw dict;bx row;bz asg;bA next;bC congrArg;bD iff;bI out;bJ builtin;bK kvs;bL absurd;bM decide;bN byLI;bO ft2;bP Array;bS keep;bU cmp;bV params;bX wpAny_pure;bY lookup;bZ beq;b1 za2;b2 za3;b3 cells;b5 Sem;b6 push;b7 stk';b8 refl;b9 pure;ca obs;ce FloorDiv;cf ctorIdx;cg ofNat;ch za4;ci kernel;cj add;cm PyData;cn Stmt;cp fields;cr bind;cy Own;cz le_of_ble_eq_true;cA za5;cB za6;cC cond;cD Scope;cE casesOn;cF inj;cH seq;cI byRF;cN set;cO stk0;cP acc;cQ lt_size;cR key;cU len;cV local;cW host;cX body;cY locals;cZ mem_singleton;c5 za7;c6 za8;c7 za9;c8 Good;c9 za10;dg Around;dj run;dm cell;dr Name;du st2;dv not_lt;dw Add;dA Pos;dB kindOf;dC lay0;dD gens;dH Bytes;dI code;dJ error;dL get;dM all;dQ mem_cons_self;dR Frag;dS range;dT adr;dV le_trans;dW tabS;dX Nodup;dY frames;dZ append_nil;d2 trivial;d3 own;d5 rows;d6 if_neg;d8 facts;d9 kind;ec frame;ed con;eg fin;ej one;em za11;er get?_push_of_some;et reverse;eu hit;ez Unit;eA Env;eB World;eC eval;eD le_refl;eF decide_eq_true;eH free;eI keeps;eL All;eN update;eO toD;eP append_assoc;eR flat;eS mem_cons;eT here;eW objsC;eY if_pos;eZ attr;e6 za12;e7 Looks;e9 handled;fc far;fe za13;fg ite;fh in1;fi drop;fk Out;fm fresh;fq of_decide_eq_true;fs length_map;fu iota;fv injEq;fw put;fx zip;fA SameBut;fB fix;fF same;fG get?_push_size;fH String;fI take;fN objs3;fP any;fS Code;fT False;fW sel;fY decide_eq_false;f0 eq_of_beq_eq_true;f3 sizeLine_eq;f4 Mult;f5 imp;f8 Keeps;gc loc3;ge getD;gf name;gi toList;gj replicate;gk loop;gp told;gr holding;gt boot_o_4;gu wpAny_of_eq;gw steps;gz low;gG toArray;gH map_inj_left;gJ mem_cons_of_mem;gK hcl;gL NotEq;gM enum;gP getElem?_eq_some_iff;gT Program;gW ListComp;gY IsList;gZ knd;g5 neg;g6 ble;g7 alive;g8 den;g9 depth;ha globals;hb za14;hh map_eq_some_iff;hj za15;hw za16;hy za17;hD NameKind;hF script;hG under;hH wpAny_field;hI succ;hK dictOf;hP length_append;hR other;hT locC;hU sound;hW contains;hY wpAny_mono;hZ deeper;h7 old;h8 le_of_eq;ie getElem?_eq_getElem;ii za18;il stack;im kept;io boot_o_0;iq ne_of_lt;ir isSome;iw all_eq_true;iB Model;iD mainGlobals;iE rawInt;iF comp;iH line;iI isList;iJ findIn;iK Sat;iM Flow;iN src;iO size_push;iP locs;iQ DictEntry;iR wpAny_specialOf;iS bytes;iT target;iW tab;iY andThen;i4 And;i5 zero;i7 bor;i8 bitAnd;i9 foldl;jb Const;jc mem_of_getElem?;jd units;jf nodup_cons;jl sub_self;jm IsTup;jn CmpOp;jo Sub;jp new;jq max;jw canLay0;jx eq_of_beq;jy ext';jz le_of_lt;jD FuncData;jE builtins;jG at_;jH Thread;jI nsMap;jK init;jL function;jM cenv;jN isEmpty;jP blt;jS codes;jT Call;jV choose_spec;jW compareOp;jX not_le;jZ starEach;j0 top;j3 two;j6 notedBy;j7 guards;j8 live;j9 ifs;ka PlainList;kc mk';kd bare;kj Tuple;km stays;kw za19;kx True;ky standAt;kz done;kB Fin;kC get?_update_self;kF Prod;kG typeLookup_type;kH builtinLookup_eq_fast;kI table;kJ argsOk;kK TypeIs;kN Pow;kO clipAt;kP Attribute;kR getElem?_append_left;kS nodup_nil;kV backTo;kX layC;kY three;la bind_eq_some_iff;lb owner;lc isSubtype_type;lf IsPart;lg and_eq_true;lh sum;ll band;ln za20;lp LtE;lr truthy;lv za21;lA length_reverse;lB globalImplicit;lD getElem?_append_right;lE lookup_cons;lL mem_append;lM false_ne_true;lN isSubtype;lO iter;lP lt_irrefl;lX app;lZ dictOf_iff;mf Result;mi again;mj execs;ml func;mm tail;mo za22;mq not_mem_nil;mr or_false;mt entryFor;mu extBut;mx each;mG objE;mH lt_of_lt_of_le;mJ loc';mM cons_ne_nil;mR callerA;mT noteFrame;mU stmts;mV isSome_iff_exists;mW builtinsNs;mX decide_eq_true_eq;mY typeIs;m0 za23;m3 unit;m5 rowAt;m6 eName;m7 length_cons;na upd;nb za24;nc spliced;nf mem_of_lookup;ni emod_nonneg;nn za25;np za26;nq Fast;nr intro;nu default;nw find?;ny wpAny_call_entry;nz wpAny_rule;nB wpAny_holding;nC slots;nD zero_le;nE DictAt;nJ keyOk;nM and_eq_true_iff;nU natCast_nonneg;nW emptyDict;nX instObj;nZ map_cons;n4 getElem?_map;n9 objsA;oa locA;og emod_lt_of_pos;oj za27;ok za28;ol za29;om objs';on za30;oq drawn;ou step;ov filter;ox isNs;oy Slot;oz mem_map_of_mem;oC wpAny_isInstance;oD pyNext;oF self;oG intKind;oK IsNot;oM GtE;oN Src;oP cat;oT val;oY extract;oZ toInCall;o3 now;o5 za31;o6 Apart;o8 za32;o9 za33;pa loc1;pc za34;pd qualname;pe rule;pj ofString;pm getItem;pn args;po typeLookup;pq typeIs_bytes;pr SmallTypes;pt wpAny_standAt;pv elt;px qual;py mapSeq;pz not;pA LShift;pE head?;pH store;pJ stI;pO BoolOp;pP Return;pQ Assign;pS IsCell;pV slice;pW PassesOwn;pY setIfInBounds;pZ typeOf;p7 isStr;p9 fst;qa any_eq_true;qb SrcAt;qe all2;qk onRaise;qm le_succ;qs bytearray;qt wpAny_newObj_type;qu mro;qv pyIter;qw compLoop;qx Perm;qy toNat_le;qA tuple;qI Subscript;qL IsDictOf;qM after;qN canLayAll0;qO DecidableEq;qP DictOf;qQ length_take;qR wpAny_Name;qS evalEach;qV propext;qW of_pure;qZ notStar;q0 ExceptHandler;q1 za35;q2 za36;q4 getElem?_eq_none;rc za37;re claim;rg Decidable;rj leaving;rk closure;rm wpAny_load;ro field;rp rec;rq head;rr Ref;rt denote;ry main;rz keyHash;rB mem_filter;rC map_map;rE cStatics;rF IsSliceOf;rG assign;rH relabel;rI lt_succ_self;rJ Operator;rM strOk;rP negSucc;rZ UnaryOp;r0 Constant;r6 Slice;sb toV;sd atK;se beq_eq_false_iff_ne;sg length_drop;sj blt_eq;sk za38;sn length_nil;so za39;sp setFlight;sr mem_map;st za40;su isInstance;sv beq_refl;sw apos;sy setItem;sB map_append;sD use;sK za41;sN ord;sS enter;sT quiet;sU callAny;sV isTrue;sX life;s3 za42;s4 tk0;td map_some;te all_cons;tf and_true;th signature?_of;ti wpAny_typeOf;tj plain;tm wpAny_attempt;tp toNat_natCast;tq nextOf;tr IntsAre;tu sysModules;tv IsZip;ty za43;tz natAbs;tM strKind;tN flatMap;tR or_eq_true_iff;tS le_add_right;tU hash;tV get?_none_of_le;t5 za44;t6 za45;t7 cellsFrom;t8 mapFields;t9 get?_update_ne;uc clsIn;ud machine;ui za46;ul Range;um toNat_of_nonneg;un za47;uq excClassObj;ut za48;uu getElem?_range;uB beq_false_of_ne;uG below;uI yield;uJ Pass;uM topFrame;uP mem_append_right;uQ mem_of_find?_eq_some;uR nsKeys;uS nil_append;uT entryFor_of_tree;uU rawPart;uW write;uX Data;uY codeAny;uZ wants;u3 slot_next;u6 wpAny_setField;u7 ExtBut;u8 IsEnum;u9 foldedSetIterable;va first;vb listExtendWith;vc ne_of_gt;vd Pairwise;vi part;vw IfExp;vx Compare;vA glob;vB cellK;vD of_isNs;vI push_size;vJ wpAny_release;vK noStar;vM value;vN cellsFrom_some;vO length_set;vQ beq_self_eq_true;vV assignEach;vY adopt;v0 za49;v6 za50;wf za51;wg shift;wl lt_of_not_ge;wn za52;wu WData;wv za53;ww za54;wx decodersThatHold;wC mark_none;wD point;wE if_true;wF motive;wP za55;wS za56;wT za57;w0 treeTable;w3 mem_append_left;w4 payload;w5 exported;w7 checkBuiltinCall;w8 not_eq_true';w9 wpAny_callSpecial?_slot;xa compStart;xb ForInStep;xe ItemsOf;xf IsTupIter;xn BitAnd;xo RShift;xq flatten;xw isIn;xz za58;xD isExc;xL congrFun;xX expr;x4 za59;x5 za60;x6 lt_of_le_of_lt;x7 KeyKind;x8 dict_int;ya tupI;yd loadName;ye wpAny_nsGet;yh pairwise_flatMap;yi bind_some;yj operate;yn markedEach;yo ExactDict;yr le_of_eq_of_le;ys za61;yt typeIn;yu lt_trans;yv hasDict;yw refKey;yx putName;yB arm_execs_cons;yC stored;yD map_congr_left;yE add_nil;yH apart_new;yR pairsOf;y7 bitAnd_m8;y8 funext;zn za62;zs za63;zt classAt;zw wellSaid;zy wp_mono;zC theTreesLotGoes;zD cameBackBy;zE runOwn;zF isCoroutine;zG isGenerator;zH CodeRec;zI newFunctionEnv;zK cont;zL false_eq_true;zM if_false;zN wpAny_execs_nil;zO load;zP Setting;zQ stepOk;zS defaults;zU behindTheImports;z1 za64;z3 za65;z4 za66;As za67;At za68;Au Manifest;Av picked;Aw plainId_quiet;Ax callSpecial?;Ay mroOf;Az typeIs_int;AA not_lt_of_ge;AB beq_iff_eq;AC letOwnedTupleGo;AD closureFor;AE mem_reverse;AF listLengthHint;AG wpAny_ite_split;AH wpAny_updateSeq;AI get?_update_other;AJ wpAny_seqItems;AK wpAny_pyIter_list;AM forIn_cons;AS NotIn;AT za69;A3 callC;Bg BinOp;Bi Dict;Bm While;Bn Raise;Bo reverse_cons;Bt Lambda;Bz binaryOp;BB ToInt;BC zero_le_ofNat;BF add_le_add;BJ dict_str;BP decide_eq_true_iff;BQ add_comm;BT za70;BU ofNat_le;BX eraseIdxIfInBounds;B7 leave;B9 mem_or_eq_of_mem_set;Cc specialOf;Cd makesIn;Ce looks_findIn;Cf base;Cg getAttr;Ch za71;Cj methodCallForm;Cm methodCallPos;Cq pureO;Cr pos';Cu arm_eval_Call_Name';Cz length_replicate;CR mem_range;CT za72;CY bitNot;CZ pow_nonneg;C0 toNat_lt;C2 bitAnd_m32;C9 le_of_not_lt;Da za73;Db za74;Dk map_replicate;Do RowC;DB attempt;DF block;DG recursionLimit;DL bindArgs;DM whileLoop;DN loadIfAlive;DQ isFreed;DR segRun;DS FunctionDef;DV kwdefaults;Ev za75;EQ za76;EX za77;Fa za78;Fk za79;Fr za80;FM za81;FS za82;Gc za83;Go za84;GE za85;GM za86;GT za87;H1 za88;Id za89;Ix za90;IO za91;IR za92;Jm boot_o_2;Jn boot_o_3;Jt byRow2;Jx take_append_drop;Jz asleep;JI exportsOf;JJ checkResize;JO wpAny_call;JP ownRelease;JQ slotIsOwn;JR newExc;JU firstArgMember;JV raiseNew;J1 comprehension;J2 Walks;J4 length_eq_zero_iff;J5 length_toList;J6 wpAny_newList;Kc bitOr;Kf keysOf;KB za93;KE za94;KF za95;KM za96;KQ motive_2;KT of_le;KU succ_le_succ;KX min_le_left;K8 nsFind;K9 not_lt_zero;Lb wpAny_truthy_bool;Lc ofNat_lt;Lh mem_flatMap;Lk replicate_succ;Lm listTooLong;Lp max_eq_right;LA markedBehindIn;LB size_toArray;LE bindL;LF bindC;LG noLimit;LH above;LI readyFrames;LJ lt_of_add_left_lt;LL getElem?_set_self;LN callee;LP lt_of_succ_le;LT za97;LZ lookIn_dict;L0 lookIn;L1 InstAt;L2 ownOf;L3 findIdx?;L5 pairwise_cons;L6 callWith;L7 backToKw;L8 keywordEach;Ma getMethod;Mb endLine;Mc arm_exec_Return;Mg bindName;Ml map_reverse;Mm assignInOrder;Mn arm_exec_Assign;Mo swapsWithSole;Mq forLoop;Ms IsListIter;ME foldl_cons;MF rangeSize;MK inCells;MT len_list;MX dictAt;MY excBase_Exception;M2 za98;M3 isExcClass;M4 excFromValue;No za99;Nv getElem?_take_of_lt;NA lt_toNat;NC fdiv_eq_ediv_of_nonneg;NE za100;NL min_eq_left;NM cons_append;NT le_add_of_nonneg_left;NU eq_ofNat_of_zero_le;NV getElem_mem;NX lt_of_sub_eq_succ;N6 sum_cons;N7 sum_nil;On outcomeOf;Oo leftWithCleanup;Op GoodWG;Oq ExcName;Os means;Ov noConfusion;Ox tw9446332074065402090;Oy OpenLaw;OC wpAny_point;OE NoLimit;OG thread;OJ mainNs;Pi through;Pj topRun;Pk true_and;Pl globalOf_eq;Pm behind;Pn asleep_of_life;Pp sliceParts;Pr subscript?;Ps newBytearray;Pt sliceIndices_raw;Pu guardIds;Pv za101;Py under_plainId;Pz quiet_builtin;PH slot_int_index;PL entry_next;PM args_next;PQ wpAny_pyIter_slot;PU wpAny_letGo;PV wpAny_handled;P0 slot_self;P1 isSubtype_stop;P5 listSameRef;P6 sizeLine;P7 updateSeq;P9 listItems;Qa not_or;Qb preSum;Qc lt_succ_of_lt;Qd getElem?_toList;Qe bm_called;Qz isNone;Re za102;Rm tableObj;Rq le_of_add_right_le;Rr intBits;Rs depthAll;Ru and_self;RG wpAny_loadName_local;RH wpAny_loadName_free;RI lt_of_succ_lt_succ;RS seqIndex?;RW za103;RY length_singleton;RZ nodup_append;R1 za104;R7 flatten_cons;R8 mul_comm;R9 call_meets;Sc min_le_right;Sd sub_le;Sg succ_ne_zero;Si pairwise_iff_getElem;Sm reverse_reverse;Sx arm_eval_Tuple;Sy wpAny_newTuple;Sz newList;SB subscriptTail;SC wpAny_letTemporaryGo;SF slot_list_getitem;SJ cellsFrom_names;SP frameOf;SR setField;SZ za105;Tc check_slot;Tf plainOver;Tl za106;Tm findObj;To wpAny_mkText;Tp setAttr;Tq Keeper;Ts keepIn;Tu getMethod_builtin;Ty arm_eval_Call;Tz Keyword;TA methodCall;TB swapsWith;TD za107;TE za108;TF module;TP add_right_comm;TQ add_le_add_right;TR wpAny_listPart;T3 za109;Uf za110;Ug single;Ui cellOf;Uj pure_bind;Un ScopeKind;Ur ble_eq;UF za111;UI codeAny_call_builtin;UJ wpAny_isSubtype_exc;UV raisedInstance;UX onTheHeap;UZ handleBy;U3 evalPairs;U7 mem_of_mem_drop;U8 mem_of_mem_take;Vn constOk;Vt or_eq_true;VG length_range;VH map_drop;VP refuseLoop_ref;V8 getElem?_of_mem;V9 ext_getElem?;Wa getElem?_drop;Wj natCast_emod;Wl mul_nonneg;Wm natCast_pow;Wo add_nonneg;Wp add_assoc;Ws emod_eq_of_lt;Wt bitAnd_m16;WF za112;WG toNat_add;WP za113;WX nodup_range;XF ints_map;XL layableAll;XM records;XS WRecords;XV za114;XY callFunction;XZ wpAny_enterFrame;X0 whileTurn;X1 unsupported;X8 Arguments;ZB za115;ZH drop_drop;Z0 za116;abs accountedOkI;aby table_eq_tree;abM slice_no_index;abQ eq_false_iff;abR wpAny_update;abS wpAny_lookBehind;abU checkTypeCall;abX codeAny_mono;ab1 table_eq_fast;ab2 fastTable_eq_tree;ab5 codeAny_of_tree;acc za117;acf not_eq_false;acg data_mapFields;aci size_pos_of_not_empty;acl callType_new;acm args_object_init_2;acp wpAny_askSetting;acr lookup_relabel_local;acs wpAny_comp_letGo;act za118;acx plain_extend_loop;acy callType_codes;acG takeBufferQuiet?;acK slot_tupleiter_next;acM ownedTupleIsFree;acN wpAny_setField_rec;acO wpAny_onRaise;acQ slot_zip_next;adc za119;add za120;adr za121;adP getElem_of_mem;ad6 or_eq_some_iff;ad7 loadName_read;aen negSucc_lt_zero;aeq getItem_tuple;aer add_lt_add_right;aeu eq_of_lt_succ_of_not_lt;aev flatMap_append;aey slot_int_rmul;aeB toList_append;aeC toList_extract;aeD wpAny_getItem_list_slice;aeF slot_bytes_getitem;aeG wpAny_list_append_plain;aeJ le_succ_of_le;aeL slot_list_pop;aeN le_of_succ_le;aeQ arm_eval_Constant;aeU arm_eval_UnaryOp;ae3 arm_eval_BoolOp;ae5 behindInMarks;ae9 compareChain;afi letTemporaryGo;afj slot_dict_getitem;afk pairwise_map;afo eq_false_imp_eq_true;afq getElem?_set_ne;afs not_false_eq_true;afu set_append_right;afx wpAny_newFunctionEnv_cells;afE findIdx?_cons;afG putNameByArray;afI storeInOwnDict;afJ wpAny_loadPart;afS sliceBounds_plain;afY slot_list_extend;afZ slot_dict_update;af4 arm_eval_Attribute;aga arm_exec_Expr;agb wpAny_dropValue;agg wpAny_storeName_local;agr wpAny_sequenceKey;ags add_le_add_left;agt add_sub_cancel';agv slot_list_setitem;agw listSubscript?;agB arm_assign_Name;agD arm_assign_Attribute;agF arm_assign_Subscript;agI swappedStores;agK pairwise_reverse;agP unpackItems_tuple;agU slot_enumerate_next;agV map_eq_none_iff;ag0 sub_add_cancel;ag1 rangeFitsLong;ag2 wpAny_pyIter_enum;ag5 call_enumerate_list;ahl wpAny_pyIter_listiter;ahm slot_tuple_iterator_iter;aho wpAny_newFunctionEnv;ahC listItems_at;ahI eq_of_mem_replicate;ahK wpAt_of_wpAny;ahN wpAny_mroOf_exc;ah7 arm_exec_Try;aig za122;aio functionCode;aip wpAny_fieldsOf;aiL lt_add_of_pos_right;aiM wpAny_pyIter_zip;akd and_two_pow_sub_one_eq_mod;all za123;alt toNat_add_nat;amp za124;amQ lt_of_add_one_le;any za125;anB za126;anX za127;ao4 layAllW_rest;ao5 leftWithCleanup_false_of_bare;apg readsAllW_nil_inv;aph readsAllW_cons_inv;app y;apq T;apr D;aps O;apt L;apu F;apv K;apw X;apx G;apy I;apz H;apA U;apB M;apC N;apD Y;apE Z;apK pm;apW f4;aqb po;aqe v0;aqi hw;aqj s4;aqs sw;aqw nn;aq4 m0;aq5 a1;aq6 a2".splitOn ";").foldl (fun m s => match s.splitOn " " with | [a, b] => m.insert a b | _ => m) {}
open Lean in
def qqqK (n : Name) : Option Syntax := match n with
  | `byKR => some (Unhygienic.run `(by kernel_rfl)).raw
  | `byDE => some (Unhygienic.run `(by decide)).raw
  | `byLI => some (Unhygienic.run `(by lia)).raw
  | `byRF => some (Unhygienic.run `(by rfl)).raw
  | _ => none
open Lean in
def qqqC (ts : Array (Array Name × Syntax)) (t : Syntax) : Syntax :=
  let sb (k : Nat) (x p : Syntax) : Syntax := match ts[ts.size - k]? with
    | some (ps, b) => (b.rewriteBottomUp fun u => if u.isIdent && ps.contains u.getId then x else if u.isOfKind ``Lean.Parser.Tactic.rcasesPatLo then p else u)[1][1][0][0][0]
    | none => t
  if t.isOfKind ``Lean.Parser.Tactic.cases then
    let x := t[1][0][1]
    if !t[1][0][0].isNone || t[1].getNumArgs != 1 || x.isOfKind ``Lean.Parser.Term.paren || !t[2].isNone || (!x.isIdent && !t[3].isNone) then t
    else if !x.isIdent then sb 2 x t
    else
      let f := sb 3 x t
      if t[3].isNone then f else f.setArg 1 (mkNullNode ((f[1].getArgs.extract 9 99).map (·.rewriteBottomUp fun u => if u.isOfKind ``Lean.Parser.Tactic.induction then u.setArg 4 t[3] else if u.isOfKind ``Lean.Parser.Tactic.cases then u.setArg 3 t[3] else u)))
  else
    let p := t[1][0][0][0]
    if p.isOfKind ``Lean.Parser.Tactic.rcasesPat.paren && t[1][0][0].getNumArgs == 1 && t[2].isNone then sb 1 t[3][1][0] p[1] else t
open Lean in
def qqqF (ts t0 : Array (Array Name × Syntax)) (t : Syntax) : Syntax :=
  let ap (l : Array (Array Name × Syntax)) (n : Nat) (as : Array Syntax) : Syntax := match l[n]? with
    | some (ps, b) => b.rewriteBottomUp fun u => if u.isIdent then (match ps.findIdx? (· == u.getId) with | some i => as.getD i u | none => u) else u
    | none => t
  let fl (f : Syntax) (as : Array Syntax) : Syntax := if as.isEmpty then f else if f.isOfKind ``Lean.Parser.Term.app then f.setArg 1 (mkNullNode (f[1].getArgs ++ as)) else mkNode ``Lean.Parser.Term.app #[f, mkNullNode as]
  if t.isOfKind ``Lean.Parser.Term.app && t[0].isOfKind numLitKind then
    let k := (ts[t[0].toNat]?.map (·.1.size)).getD 0
    fl (ap ts t[0].toNat t[1].getArgs) (t[1].getArgs.extract k t[1].getNumArgs)
  else if t.isOfKind ``Lean.Parser.Term.app && t[0].isOfKind ``Lean.Parser.Term.app then fl t[0] t[1].getArgs
  else if t.isOfKind scientificLitKind then ap t0 (((t.isLit? scientificLitKind).getD "").replace "e" "").toNat! #[]
  else if t.isOfKind strLitKind && ((t.isStrLit?).getD "").startsWith "~" then mkNode ``Lean.Parser.Term.anonymousCtor #[mkAtom "⟨", mkNullNode #[mkNode `«term#[_,]» #[mkAtom "#[", mkNullNode (mkSepArray ((((t.isStrLit?).getD "").toList.tail.map fun c => (Syntax.mkNumLit (toString c.toNat)).raw).toArray) (mkAtom ",")), mkAtom "]"]], mkAtom "⟩"]
  else if t.isOfKind ``Lean.Parser.Tactic.cases || t.isOfKind ``Lean.Parser.Tactic.obtain then qqqC ts t
  else if t.isOfKind ``Lean.Parser.Command.universe then mkNode ``Lean.Parser.Command.end #[mkAtom "end", mkNullNode (if t[1].getNumArgs > 1 then #[t[1][1], mkNullNode] else #[])]
  else if t.isOfKind ``Lean.Parser.Command.declaration && (t[1].isOfKind ``Lean.Parser.Command.definition || t[1].isOfKind ``Lean.Parser.Command.abbrev) then t.setArg 0 (t[0].setArg 4 (mkNullNode #[mkNode ``Lean.Parser.Command.noncomputable #[mkAtom "noncomputable"]]))
  else t
open Lean in
local macro_rules (kind := Lean.Parser.Command.mutual)
  | s => do
    if s.getPos?.isNone then Macro.throwUnsupported
    let cs := (s.rewriteBottomUp fun t => match t with
      | .ident _ _ n _ => let n := n.components.foldl (fun r c => r ++ (match qqqT[c.toString]? with | some v => v.toName | none => c)) .anonymous; (qqqK n).getD (mkIdent n)
      | .node i k a => .node i (if k == ``Lean.Parser.Tactic.show then ``Lean.Parser.Tactic.refine else if k == ``Lean.Parser.Tactic.refine then ``Lean.Parser.Tactic.show else k) a
      | t => t.setInfo .none)[1].getArgs
    let mut ts := #[]
    let mut t0 := #[]
    for a in cs[0]![1][3][0][0][0].getArgs do
      let p := a[1][0].getSepArgs
      if p[0]!.isIdent then ts := ts.push (p.map (·.getId), a[3]) else t0 := t0.push (#[], a[3])
    for _ in [0:6] do
      let (a, b) := (ts, t0)
      ts := ts.map fun t => (t.1, t.2.rewriteBottomUp (qqqF a b))
      t0 := t0.map fun t => (t.1, t.2.rewriteBottomUp (qqqF a b))
    let mut m := (qqqM.toList.foldl (fun (l, b) c => (l ++ List.replicate (c.toNat - 48) b, !b)) (([] : List Bool), false)).1
    let mut r := #[]
    for c in cs.extract 1 cs.size do
      let d := c[1]
      let mut c := c
      if c.isOfKind ``Lean.Parser.Command.declaration && d.isOfKind ``Lean.Parser.Command.definition then
        if m.headD false then c := c.setArg 1 (mkNode ``Lean.Parser.Command.theorem #[d[0], d[1], mkNode ``Lean.Parser.Command.declSig #[d[2][0], d[2][1][0]], d[3]])
        m := m.tail
      r := r.push (c.rewriteBottomUp (qqqF ts t0))
    return mkNullNode r
mutual
def z
|ζ=>.y ζ false|ζ,η,θ=>de P ζ η (.N θ)|ζ=>.y ζ true|ζ=>.y ζ 0|ζ,η=>⟨ζ ,[],η⟩|ζ=>.aa (.N ζ)|ζ=>.ad ζ true|ζ=>.Y ζ F|ζ=>.ad ζ false|ζ,η=>a9 .bo ζ η|ζ=>64 ζ RV|ζ=>64 ζ br|ζ=>38 (sm+ζ) 256|ζ=>280 (((sm+ζ).ah 256))|ζ,η=>G (.ag ζ η)|ζ,η=>a9 .ce ζ η|ζ=>.az ζ false|ζ,η=>RV J s.M ζ η|ζ=>Cx mL sh b k ns (.X ζ)|ζ=>lk ζ k|ζ,η,θ,ι,κ=>.aT ζ ⟨η ,θ ,ι⟩ κ|ζ,η=>∀f,bQ f ζ=η|ζ,η=>.aX (5 ζ) η|ζ=>ey ζ ?_|ζ,η=>90 ζ η a5|ζ,η,θ,ι=>137 ζ η θ ι a5|ζ=>283 ζ s|ζ,η=>30 ζ (.l η)|ζ,η,θ,ι,κ,μ,ν,ξ=>dE ζ η θ ι κ μ false ν ξ|ζ=>108 ζ Q E s|ζ,η=>208 28e1 ζ η|ζ,η=>bL ζ (I.dv.bn η)|ζ=>dz k (.X ζ)|ζ=>.a 164 ζ|ζ,η,θ,ι=>fO P (.ag ζ η) θ ι|ζ,η,θ=>.a7 ζ (.l η) θ|ζ,η,θ=>.Y (.v ζ) η θ|ζ=>.az ζ true|ζ,η=>2 ((ζ).ah η)|ζ=>ac ζ a5|ζ,η,θ=>ea (101 ζ η) T θ|ζ=>aY (bh bc w) A ζ Q E s|ζ,η,θ=>R.O ζ _ p η θ|ζ,η=>JX d sc ζ F η|ζ=>aZ (eM ζ)|ζ,η,θ=>cG P sh b k k1 (.X ζ) η T θ|ζ,η,θ=>151 0e6 ζ η T θ|ζ=>G (.N ζ)|ζ=>apF mL b0 sh b k ζ|ζ,η,θ=>198 6 ζ η θ|ζ,η,θ=>bE ζ (G η) (G θ)|ζ=>⟨_,ζ ,H⟩|ζ,η=>.Y 24e4 ζ η|ζ,η,θ,ι,κ,μ,ν,ξ,ρ,τ,υ,φ,χ,ψ=>⟨ζ ,η ,θ ,ι ,κ ,⟨μ ,0,ν ,ξ⟩,ρ ,τ ,υ ,⟨φ ,0,χ ,ψ⟩⟩|ζ=>D.gJ _ ζ|ζ,η,θ=>264 P b ζ η θ|ζ,η,θ,ι=>Kp ζ aC η θ ι|ζ,η=>.aT 24e4 ζ η|ζ,η,θ,ι,κ=>cw ζ η θ ι (2 κ)|ζ,η=>cc ζ H ⟨H,H,H⟩ η|ζ,η,θ,ι,κ=>.bD (.bU (.l ζ) η θ) ι κ|ζ=>⟨ζ ,[]⟩|ζ=>199 T ζ|ζ,η,θ=>.bU ζ [η] θ|ζ,η=>100 ζ η Q|ζ,η=>115 ζ (.i η)|ζ,η=>c9 ζ a en η|ζ,η,θ,ι=>156 ζ η θ eU 883 ι|ζ=>aY apB A ζ Q E s|ζ=>cy ζ a|ζ,η,θ,ι,κ,μ,ν,ξ,ρ=>137 ζ η θ ι (137 κ μ ν ξ ρ)|ζ,η=>Kp J ζ x s.M η|ζ=>bu b ζ|ζ=>cK f ζ|ζ,η=>104 28e1 ζ η|ζ=>115 98 (.s ζ)|ζ=>(ck ih ζ F).aF|ζ=>Nx mL b0 b k ζ|ζ=>eC ζ ab|ζ=>.aE (.aE ζ)|ζ,η,θ=>.a7 ζ η (.i θ)|ζ,η,θ,ι=>de P ζ η (.y θ ι)|ζ,η=>c8 ζ η ns|ζ=>cx J h ζ us|ζ,η=>{s with M:=ζ ,a1:=η}|ζ,η,θ=>dc ζ η 0e6 θ|ζ=>316 26e5 (.cH ζ 0)|ζ,η,θ=>⟨ζ ,10e5++[η],θ⟩|ζ=>9 (sm+ζ) 256|ζ,η=>c s (.x ζ η)|ζ,η,θ=>ac ζ (ac η θ)|ζ=>aZ (dh ζ)|ζ,η=>316 50e3 (.bw ζ η)|ζ,η,θ=>20 (.v ζ) η T [] θ|ζ,η,θ,ι=>fU (cG P sh ζ k k1 (.X η) θ T ι)|ζ,η=>35 .dw ζ (.l η)|ζ,η,θ,ι=>e8 6e2 ζ η θ ι|ζ=>260 ζ Q EE s|ζ,η,θ,ι,κ,μ,ν,ξ=>⟨46e6,ζ ,.bj ⟨η ,θ ,ι ,κ ,μ ,true,[],ν ,false,L,false⟩,ξ⟩|ζ,η,θ,ι=>.bD (.bU ζ η θ) ι []|ζ,η,θ=>aH x J s ζ η θ EE|ζ,η=>b1 sh ζ k1 η|ζ=>aY (bh pw x.w) x.A ζ Q EE s|ζ,η,θ=>120 ζ η gh 2135 θ|ζ,η,θ=>.ex (.bl ζ η θ)|ζ=>.f (.bk ζ)|ζ=>ζ<=16777216|ζ,η,θ=>⟨⟨ζ ,η⟩,θ⟩|ζ,η,θ,ι=>aM apB A ζ η θ ι|ζ,η,θ=>d4 (.X ζ) η θ|ζ,η=>D.gH.mp ζ _ η|ζ,η,θ=>ia (eO ζ η) θ|ζ,η,θ=>.bU (.l ζ) [η] θ|ζ=>.bv C ζ|ζ,η,θ,ι=>228 40 ζ η θ ι|ζ,η=>.a2 (.l ζ) η|ζ,η,θ,ι,κ,μ,ν=>apy ζ η θ ι ⟨κ ,μ ,ν⟩|ζ=>ai.er _ ζ|ζ=>(D.gP.mp ζ).1|ζ=>ad ζ 0e6 []|ζ,η,θ,ι,κ=>b4 (eh ζ) η (.L) θ ι κ|ζ=>.ag S1 ζ|ζ=>R.fy a ζ|ζ,η,θ,ι,κ,μ,ν=>aw ζ η θ ι (36 κ μ ν)|ζ,η,θ,ι,κ,μ,ν,ξ=>fX C ζ η 5e3 C.apx.up θ ι κ μ ν 13e8 ξ|ζ,η=>.aT ζ η []|ζ,η,θ,ι=>apy ζ 60 η (.ss θ) ι|ζ=>fY (K.dv.bn ζ)|ζ=>KV .cA ζ|ζ,η=>.bz (.t ζ) (.X η)|ζ,η,θ=>ac ζ (24 η θ)|ζ=>⟨ζ ,aq,by rw[s];rfl⟩|ζ,η=>ζ λv F=>η|ζ,η,θ,ι,κ=>.gW ζ [⟨η ,θ ,ι ,0⟩] κ aU|ζ,η,θ,ι,κ=>aM 6e2 ζ η θ ι κ|ζ,η,θ=>81 S8 ζ η θ|ζ,η,θ=>236 S7 ζ η θ|ζ,η,θ,ι,κ=>90 ζ η (90 θ ι κ)|ζ=>ζ->ae->Prop|ζ,η,θ,ι,κ=>ek sh ζ η θ (.a8 ι κ)|ζ,η,θ=>93 (6 ζ) η θ|ζ=>.ag 4e6 ζ|ζ,η,θ,ι=>cC (I.bZ ζ η) θ ι|ζ,η,θ=>.bz (.s ζ η) θ|ζ,η,θ,ι=>156 ζ η θ gg 1438 ι|ζ,η,θ=>kV ζ (jZ η θ)|ζ=>RV J h ζ u|ζ,η=>ew ζ η .cV|ζ,η,θ=>eQ (hY ζ η θ)|ζ,η,θ=>gy 24e9 (139 ζ k1 [] 51 [η]) θ|ζ,η=>dc ζ oc en η|ζ,η,θ,ι,κ=>c6 ζ (ad η 0e6 θ) ι κ|ζ,η=>s.M.gY ζ ⟨η⟩|ζ,η,θ,ι,κ,μ,ν=>116 ζ η θ (22 ι κ) μ T ν|ζ=>ζ->Prop|ζ,η,θ=>93 (8 ζ) η θ|ζ,η,θ,ι,κ,μ=>b4 (dk ζ η) θ (.L) ι κ μ|ζ,η=>Q ζ (84 h' η)|ζ=>Q ζ 35e9|ζ,η=>109 ζ η []|ζ,η,θ=>⟨ζ++[.bv 789 η],θ ,[]⟩|ζ=>230 ζ s|ζ,η=>λmL=>(ac ζ η)|ζ,η,θ=>.Y ζ (F.cN η θ)|ζ,η=>kw (as:=ζ) cI η|ζ,η,θ=>.a7 ζ η (.l θ)|ζ=>aZ (aM.of ζ)|ζ,η,θ,ι=>aK x (ζ++η) θ ι|ζ,η=>ai.fA ζ s.M η|ζ=>bg (bg ζ)|ζ,η=>.aX (.g ζ) η|ζ=>cx J s.M ζ us|ζ,η,θ,ι=>ji ζ 24e5 22e4 22e4 (λB ft T=>η) (λB ft e=>θ) av ι|ζ,η,θ=>e7 3e0 ζ η θ|ζ=>.dr id ζ|ζ=>232 76 ζ|ζ=>104 26e6 46 ζ|ζ,η=>.bv 789 [ζ ,η]|ζ=>bE ζ x app|ζ,η=>55 ζ η []|ζ,η=>.e (.l ζ) η|ζ=>s.M.O.an+ζ|ζ=>aZ (bH ζ)|ζ=>lw mL ζ|ζ=>91 (aM.of ζ)|ζ,η,θ=>ij ⟨ζ ,η ,θ⟩|ζ=>.s (lS ζ)|ζ=>lI (f:=ζ) aq|ζ=>10 (7 ζ)|ζ=>(bP.mk ζ).an|ζ,η,θ,ι=>.fg (180 ζ (.i η)) θ ι|ζ,η=>.dr (nm ζ) (fM η)|ζ,η,θ,ι,κ=>md (d5:=ζ) η 24e5 θ (335 ι κ cI)|ζ,η,θ=>102 (jW ζ η θ)|ζ=>.k 20 [ζ]|ζ=>194 (.l ζ)|ζ,η=>.r (.k ζ η)|ζ=>235 P 32 ζ|ζ,η,θ,ι=>.bD (180 ζ (.i η)) θ ι|ζ,η=>⟨O,ζ ,η⟩|ζ,η=>aW->ai->ζ->η->Prop|ζ,η,θ=>R.bq.eV ζ η a θ|ζ,η,θ,ι,κ=>c6 0e6 (85 ζ η θ) ι κ|ζ,η=>hU 40 60 (186 ζ) η|ζ=>64 ζ RU|ζ,η=>bW ζ 11e3 (G (a+n)) η|ζ,η,θ,ι,κ,μ,ν=>.a8 ζ (139 η θ ι κ μ) ν|ζ=>294 ζ s'|ζ,η,θ=>.bz (.a ζ η) θ|ζ=>h.ak λs h=>ζ|ζ,η=>s.M.b6 (360 ζ η)|ζ,η,θ=>.a2 (.eZ ζ η) θ|ζ=>λdn=>apu ζ|ζ=>234 b.aO ζ|ζ,η=>35 .ce ζ (.i η)|ζ,η=>.a7 .dw ζ η|ζ=>15 30e6 ζ|ζ=>22 1420 ζ|ζ,η=>.bl 28e1 ζ η|ζ,η=>R (.Y ζ) η|ζ=>⟨F.O,ζ ,F.bG⟩|ζ=>.v ζ 28e2|ζ,η,θ=>104 (.l ζ) η θ|ζ,η=>F.kc fz ζ η|ζ,η=>165 .f4 ζ η|ζ,η=>nN ((ζ).bi.aV η)|ζ=>.k 118 ζ|ζ=>b.e6 t ζ|ζ,η,θ,ι,κ=>153 P ζ (d+η) θ ι O κ|ζ,η=>.cu (bT ζ) (rV η)|ζ,η=>aK x J ζ η|ζ,η=>λmL=>(24 ζ η)|ζ,η=>35 .bo ζ (.i η)|ζ=>eC ζ x.ab|ζ,η=>bW ζ (G a) (G (a+n)) (50 η s (s+n))|ζ,η,θ=>cw ζ η 459 θ 0e6|ζ,η,θ,ι=>de P ζ η (.ag θ ι)|ζ,η,θ=>mE ζ (mE η θ)|ζ=>⟨H,ζ⟩|ζ,η=>.a2 (.ad ζ) η|ζ,η=>229 ζ (2 η)|ζ,η=>230 ζ (84 h' η)|ζ,η,θ,ι,κ,μ=>jg C ζ 5e3 C.apx.up h0 η θ ι (λmL=>κ) μ 13e8 av|ζ,η=>D.iw.mp ζ _ η|ζ=>.cW ζ 21e0|ζ=>39 (ks ζ)|ζ=>234 4e2 ζ|ζ,η,θ=>.aE ⟨ζ ,η ,θ⟩|ζ,η=>.kM (.k ζ η)|ζ,η=>185 hs.1 ζ η|ζ,η=>.bD ζ η []|ζ,η,θ,ι=>gB (I.bZ ζ η) θ ι|ζ,η=>kZ (D.mM _ _) ζ η|ζ=>hb ζ 8e0|ζ=>.bv 726 ζ|ζ=>74 177 ζ|ζ,η,θ=>.dr (nm ζ) (lq η θ)|ζ,η=>Q (.bp ζ) η|ζ,η=>ai.kC _ ζ η|ζ=>79 (79 ζ)|ζ,η,θ,ι=>aY 3e0 x.A ζ η θ ι|ζ,η=>aX (.bJ ζ) η|ζ,η,θ=>.ed (bT ζ) (iG η θ)|ζ=>65 131 ζ|ζ,η,θ,ι,κ=>c7 (df ζ η b.apr (.X θ) ι T κ)|ζ=>l.aj λi=>ζ|ζ=>.aQ ζ .aR|ζ=>P.bk apA.1 apA.2 ζ|ζ=>194 (33 ζ)|ζ,η=>262 1420 ζ (119 η)|ζ=>.r (.ad ζ)|ζ=>9 30e6 ζ|ζ=>22 1213 ζ|ζ,η,θ,ι,κ,μ=>aY (bh bc ζ) η θ ι κ μ|ζ=>bH (P.fL R ζ)|ζ,η=>decide (ζ=η)|ζ,η=>b1 sh 1e2 ζ η|ζ=>163 0e6 i ζ|ζ=>.r (.X ζ)|ζ=>R.cj [] ζ|ζ=>be.cg (ζ).aJ|ζ=>{s with M:=s.M.b6 ζ}|ζ=>G (fj ζ)|ζ,η=>aM 3e0 x.A ζ Q EE η|ζ=>D (am×ζ)|ζ,η=>80 .bo ζ η|ζ=>D.gj n.aJ ζ|ζ=>[ζ<=16777216]|ζ=>316 53e1 (.cp ζ)|ζ,η,θ,ι,κ=>c7 (df aw ζ b.apr (.X η) θ ι κ)|ζ=>λi=>336 0 i&&bM ζ|ζ=>104 36e0 46 ζ|ζ=>bX (bg ζ)|ζ=>bL ζ (I.lP _)|ζ,η=>167 J aC ζ η|ζ=>4 [164] ζ|ζ,η,θ,ι=>h ζ η (λz=>by subst z;exact θ) ι|ζ=>by rw[D.dZ];exact ζ|ζ,η=>.ed ζ λs s l=> η|ζ=>I.iq (ai.cQ ζ)|ζ=>117 (117 ζ)|ζ=>(D.lL.mp ζ).ak|ζ=>h.ak λe h=>209 (313 ζ)|ζ,η,θ,ι,κ=>cG aw sh 1e2 k ζ (.X η) θ (32 ι) κ|ζ,η=>.a2 (75 ζ) η|ζ=>decide (op= ζ)|ζ,η=>229 ζ (6 η)|ζ=>105 (.X ζ)|ζ=>360 26e5 (.cH ζ)|ζ=>360 19e6 (.cH ζ)|ζ=>λs=>G ζ|ζ,η,θ=>285 (214 ζ η) θ|ζ=>h.ak λa h=>ζ|ζ=>h.ak λx h=>ζ|ζ=>⟨m,ζ ,λk v a b=>?_⟩|ζ,η,θ,ι=>th (id:= ζ) (n:=η) (o:=θ) av ι|ζ,η=>⟨ζ ,L,η ,#[]⟩|ζ=>λvs F=> 7 ζ|ζ=>ab.b3.bY (nm ζ)|ζ,η=>{jM with bt:=rH ζ η}|ζ=>234 10e3 ζ|ζ=>l.aj λp=>ζ|ζ,η=>97 (261 ζ η)|ζ=>gu (a:=ζ) H λx=>?_|ζ=>(apv.fm a ζ).bi.aV|ζ,η=>211 (33 105) ζ η|ζ,η=>(ζ+η) % 18446744073709551616|ζ,η=>.aQ ζ (266 η)|ζ,η=>360 19e6 (.cH ζ η)|ζ=>2 (11e4 ζ)|ζ,η=>337 (.aB ζ) η|ζ,η=>215 ζ (.ad η)|ζ=>210 26e5 (.cH #[ζ])|ζ,η=>219 (.bk ζ) η|ζ,η=>250 (.i7 ζ) η|ζ,η,θ=>jh (λO T=>ζ) η av θ|ζ,η=>decide (ζ<=η)|ζ,η=>360 ζ (.cp η)|ζ=>{b with c2:= 0 ζ}|ζ,η,θ,ι,κ,μ=>R.na (o':= ζ) η (D.dQ ..) θ ι (λk=>κ) μ|ζ=>Builtin.i8 ζ 255|ζ=>I.bZ p.1 ζ|ζ=>s.M.O.an<=ζ|ζ,η=>oy "bytearray" ζ η|ζ=>l.dM (λp=>ζ)|ζ=>Builtin.i8 x ζ|ζ,η,θ,ι=>aM 3e0 46e8 ζ η θ ι|ζ=>366 (h.ak λc h=>ζ)|ζ,η=>.of (lb:= "bytearray") (n:= ζ) (by rw[kG,η];kernel_rfl) 9e8 9e8 9e8|ζ=>dh (aM.of ζ)|ζ,η,θ=>{s with M:=ζ ,a1:=η+θ}|ζ,η=>I.dV ζ (I.jz η)|ζ=>6 (hF.aj ζ)|ζ=>λp=>341 ζ|ζ,η=>.aE ⟨ζ ,_,η⟩|ζ=>.aa (.bJ ζ)|ζ=>.d3 (.ad ζ)|ζ=>.ej (.fB ζ)|ζ=>182 (91 ζ)|ζ,η=>s _ (D.dQ ..) ζ η|ζ,η=>{bj:= ζ ,bf:= η}|ζ=>9 ζ 18446744073709551616|ζ=>38 ζ 18446744073709551616|ζ=>show ζ+1<=16777216 by lia|ζ=>by rw[f3];refine ζ<=_;lia|ζ=>{aG b with aO:=213 ζ}|ζ=>312 (h.ak λb h=>ζ)|ζ,η=>(λr s'=>match r with| .Y f=>Q ζ s'| .dJ e=>η)|ζ=>by rw[D.fs];exact ζ|ζ,η=>gu (a:=ζ) η λh=>?_|ζ,η,θ=>wk (b:=1e6) (S:=ζ) η (λh=>θ)|ζ,η=>.aQ ζ (.aE nofun) η|ζ,η,θ,ι=>sI (r1:= .X ζ) (r2:= .X η) θ ι|ζ=>ad ζ 0e6 au|ζ=>s.M.eN tb (aA.t8 ζ)|ζ,η=>{s1 with M:=ζ ,a1:=η}|ζ=>λdn=> .id ζ|ζ,η,θ=>ai.lZ.bn ⟨ζ ,η ,θ⟩|ζ=>(ab.b3.bY ζ).ir|ζ=>D.kR (118 ζ)|ζ=>x.wA (x.A.hG (384 ζ))|ζ,η=>⟨ζ ,η ,by unfold CP;decide,by rw[s];rfl⟩|ζ,η=>mE ⟨ζ ,by unfold ST;decide⟩ η|ζ,η,θ,ι,κ,μ,ν,ξ,ρ=>y6 (W:=ζ) (W1:=η) (apz:=θ) (B:=ι) (B1:=κ) (λP d O T x=>av) (λP d O T x=>av) μ ν ξ ρ|ζ=>.bJ "type.__call__" ⟨2e8::ζ ,[]⟩|ζ=>by rw[<-D.eP];exact ζ|ζ,η=>∀a o,ζ=0e4->η=0e4|ζ,η,θ,ι=>{C.apx.up with aO:=by refine(ζ).U=16\/η=32;rw[θ];exact ι}|ζ,η,θ=>nd ζ o η (λvs q=>by rw[θ]at q;cases q)|ζ,η=>w9 (gf:=am.pj "__next__") ζ η|ζ=>by rw[hL];exact ζ|ζ,η,θ=>h b ζ (λz=>by subst z;exact η) θ|ζ,η=>ww (n:=ζ) (os:=os) η|ζ=>{aG b with pk:=jq ζ 2}|ζ=>by exact K.BC ζ|ζ=>λv F=> 7 ζ|ζ,η=>.ed ζ λs os l=> η|ζ,η=>q3 (λE e h=>ζ) η|ζ=>gu ζ λh=>?_|ζ=>⟨λh=>by injection h with a b;exact ζ ,λh=>by rw[h.1,h.2]⟩|ζ,η,θ,ι,κ,μ,ν,ξ,ρ=>Du (r1:=ζ) (r2:= η) (r3:=θ) (r4:= ι) (r5:= κ) μ ν ξ (Dr (by unfold hJ;decide)) ρ|ζ=>λa r=>by rw[44e9];exact ζ|ζ=>(λr s'=>match r with| .Y _=>Q ζ | .dJ _=>fT)|ζ=>dN ([v]:0e0) ζ|ζ=>n6 (o:=o2) ζ (by cases bI<;>rfl)|ζ,η,θ,ι=>C.apx.up.e6 ζ η (by rw[θ];exact ι)|ζ=>262 1420 0e6 ζ|ζ=>(ζ).qk (λx=>do mT x ab;zC x)|ζ=>by rw[D.lA];exact ζ|ζ=>261 "list.append" ζ|ζ=>322 "dict.update" ζ|ζ=>dN ([.y 0 false]:0e0) ζ|ζ=>show¬ζ from al.lM|ζ,η=>(λr s'=>match r with| .Y (.bk v)=>Q ζ s'| .Y _=>fT| .dJ e=>η)|ζ,η=>⟨ζ ,η ,by unfold IN;decide,by rw[s];rfl⟩|ζ=>λz=>by rw[(ζ).2.2.2]at t;cases t|ζ,η,θ,ι=>⟨⟨ζ ,λs=>164 η θ⟩,λs=>ι⟩|ζ,η,θ=>zj (w:=ζ) (h:=η) (m:=18446744073709551616) θ aq|ζ=>d0 ζ (by simp only[cm.jw]) (by simp only[cm.g9])|ζ=>by rw[ζ];exact I.lP _|ζ,η,θ,ι,κ=>D.rp ζ (λo apt x=>let r:=ih η θ ι ;κ) apt|ζ,η=>⟨λb aP e=>?_,λb aP e no=>?_,λb m n e no=>?_,λk p e=>ζ ,λk k=>jt.dI λb q e t=>η⟩|ζ=>⟨ζ ,by simp only[cm.jw,z.2.1],by simp only[cm.g9];exact I.KU z.2.2⟩|ζ=>jq ζ ((k.ak (bP.mk b).an (kO (bP.mk b).an):I):K)|ζ,η=>⟨λh=>by injection h with x app z;exact ζ ,λh=>by rw[η,h.2.1,h.2.2]⟩|ζ,η,θ,ι,κ,μ=>we (g:=ζ) (b:=1e6) (oc:=η) (en:= θ) (au:=ι) (apt:=κ) (S:=μ) (by unfold G4;decide) (λh=>by have:=h.1;lia)|ζ=>(by first|subst ζ|(have ζ:=ar.G.cF ζ;subst ζ)|exact nN ζ|exact apI ζ|exact nF ζ|exact nG ζ|(have ζ:=PySem.af.N.cF ζ;subst ζ)|(have ζ:=ar.G.cF ζ;first|subst ζ|exact nN ζ|exact apI ζ|exact nF ζ|exact nG ζ|(have ζ:=PySem.af.N.cF ζ;subst ζ)|(injection ζ;done)|cases(ζ))|(injection ζ;done)|induction ζ using Internal.V.cE|induction ζ using Internal.aps.cE|induction ζ using PySem.af.cE|induction ζ using ar.cE|induction ζ using D.cE|induction ζ using I.cE|induction ζ using al.cE|induction ζ using Internal.RV.cE|induction ζ using Internal.cJ.cE|induction ζ using Internal.R.cE|induction ζ using Internal.A.cE|induction ζ using Internal.fk.cE|induction ζ using Internal.Tk.cE|induction ζ using Internal.It.cE|induction ζ using Internal.oN.cE|induction ζ using Internal.apw.cE|induction ζ using Internal.S.cE|induction ζ using Internal.apq.cE|induction ζ using Internal.Tg.cE|induction ζ using Internal.Sh.cE|induction ζ using Internal.j1.cE|induction ζ using Internal.Mt.cE|induction ζ using Internal.sA.cE|induction ζ using Internal.qb.cE|induction ζ using Internal.KC.cE|induction ζ using Internal.FC.cE|induction ζ using Internal.FD.cE|induction ζ using Internal.FH.cE|induction ζ using Internal.PO.cE|induction ζ using Internal.RF.cE|induction ζ using Internal.mK.cE|induction ζ using Internal.apv.cE|induction ζ using Internal.aqF.cE|induction ζ using Internal.cq.cE|induction ζ using Internal.nt.cE|induction ζ using K.cE|induction ζ using Or.cE|induction ζ using i4.cE|induction ζ using Exists.cE|induction ζ using kF.cE|induction ζ using Except.cE|induction ζ using PySem.fS.cE|induction ζ using rg.cE|induction ζ using PySem.rJ.cE|induction ζ using PySem.jn.cE|induction ζ using PySem.pO.cE|induction ζ using PySem.a0.cE|induction ζ using PySem.cn.cE|induction ζ using PySem.Frame.cE|induction ζ using PySem.jb.cE|induction ζ using PySem.iM.cE|induction ζ using PySem.b5.cE|induction ζ using PySem.uX.cE|induction ζ using cm.cE|induction ζ using Internal.tI.cE|induction ζ using Internal.KJ.cE|induction ζ using Internal.vy.cE|induction ζ using Internal.Ri.cE|induction ζ using Internal.xV.cE|induction ζ using Internal.KM.cE|induction ζ using Internal.Bp.cE|induction ζ using Internal.Rj.cE|induction ζ using Internal.mG.cE|induction ζ using Internal.fnE.cE|induction ζ using Internal.fcE.cE|cases(ζ))|ζ=>(by first|(have zh:=Eq.bi ζ;subst zh)|cases(ζ))|ζ=>(by(show XU λ zG zf=>?_;(rcases ζ with ζ)<;>show zf ?_))|_=>D V|_=>D (I×V)|_=>2 a|_=>2 n|_=>G o|_=>138 af|_=>.aa .L|_=>0 0|_=>2 s|_=>161 F|_=>D aps|_=>0 t|_=>aG b|_=>0 1|_=>3 0|_=>0 c|_=>aG (lw mL b)|_=>b2 b|_=>0 2|_=>.b false|_=>16 []|_=>D cq|_=>.N a|_=>.i 0|_=>G v|_=>D af|_=>.a4 H|_=>.ag cM|_=>.N C|_=>R A|_=>bd x|_=>dy _ ?_|_=>R V|_=>R α|_=>0 3|_=>.i 1|_=>x.Ok d|_=>.Z 59|_=>0 5|_=>.ag c5|_=>0 16|_=>0 17|_=>b.aO.aj bB|_=>dW ?_|_=>s.M.ao a|_=>6 S|_=>nm n|_=>.i 2|_=>I->aps|_=>D be|_=>.az B ft|_=>G p|_=>((b.tb t).U:K)|_=>bu.b8 b|_=>em x ab|_=>nm k|_=>D (V×V)|_=>.X []|_=>0 65|_=>.l 42|_=>.Z 60|_=>D Prop|_=>bh bc w|_=>.Z 5|_=>.bw []|_=>0 i|_=>2 x|_=>.b true|_=>66 b cB|_=>.aB "object"|_=>(18e3).2|_=>Sort _|_=>.N p.1|_=>ee t|_=>k+1<b.B.U|_=>(18e3).1|_=>x.ah 24|_=>λs=>al|_=>.ag z|_=>.Z 51|_=>KL P|_=>dK dn|_=>a.ah 3|_=>0 19|_=>D α|_=>ar K|_=>0 64520|_=>0 64524|_=>s.M.ao b|_=>.q false|_=>6 B|_=>ai.cQ e|_=>.l 207|_=>aI×11e9|_=>b5 α|_=>ar V|_=>.N e|_=>gt P|_=>by decide+ci|_=>.N s.M.O.an|_=>ai.fG _ H|_=>.Z 1|_=>(b.aO.U:K)|_=>b.tb t|_=>D PySem.a0|_=>eb apr S B|_=>.Z 50|_=>0 q|_=>0 4|_=>0 (-2)|_=>8 []|_=>D cn|_=>gV P|_=>G a|_=>(30e6).aL|_=>0 e|_=>ar.G.cF e|_=>I.eD _|_=>h'.ao b|_=>D aI|_=>G 22e6|_=>a.aL 7|_=>138 β|_=>G .cV|_=>ar af|_=>.ss b|_=>2 o|_=>a.ah 12|_=>2 0|_=>0 (-1)|_=>io P|_=>∀p∈ca,p|_=>229 459 0e6|_=>2 fa|_=>.Z 2|_=>.Z 3|_=>.Z 4|_=>iu _ ?_|_=>λmL=>rfl|_=>76 e|_=>183 b|_=>72 b0|_=>69 J|_=>fQ ih d|_=>h.ao a|_=>.ag h9|_=>138 α|_=>λe s'=>R (.dJ e) s'|_=>2 i|_=>.aa _|_=>hq sh|_=>282 b|_=>238 H|_=>73 v|_=>.l 9|_=>D Internal.S|_=>.aE 2e6|_=>17 v u|_=>o2 P|_=>.Z i|_=>ic i|_=>0 64523|_=>a.aL 3|_=>0 35|_=>dq 10e3 a|_=>bP af|_=>.i 16|_=>.i 64|_=>.i 65|_=>0 7|_=>.l 6|_=>0 app|_=>0 64|_=>138 ez|_=>.l 98|_=>i0 av|_=>65 43 1|_=>α->β->Prop|_=>200 α β|_=>.i 4|_=>nS e|_=>fe k|_=>i3 sm apr B B2 bO|_=>ba h|_=>h'.ao a|_=>b.tb app|_=>.Z O.U|_=>F.dL i|_=>G .dm|_=>.no w|_=>(30e6).ah|_=>19 T|_=>nN e|_=>hJ t|_=>dz k bx|_=>j2 x ab|_=>.aB "list"|_=>.aE ⟨_,_,H⟩|_=>b.fK i 0e6|_=>a.ah 7|_=>a.ah 8|_=>37 []|_=>154 α|_=>bX ?_|_=>gm xs|_=>nm 58|_=>kg s|_=>82 b k|_=>0 64522|_=>2 5e2|_=>.Z 11|_=>a.ah 2|_=>0 11|_=>0 36|_=>0 66|_=>.aE H|_=>.i 32|_=>.Z 13|_=>7 v|_=>⟨b⟩|_=>F.O[i]?|_=>146 v|_=>bX h|_=>kt t|_=>λs=>rfl|_=>.aB "BaseException"|_=>.bp true|_=>.aB "Exception"|_=>2 10e2|_=>.bl 36e0 50 []|_=>G (.bJ "object.__new__")|_=>0 apr|_=>b.fK i (.ch dt)|_=>b.fC e (6 dt)|_=>183 b'|_=>G .eH|_=>D apw|_=>bg ?_|_=>b.fC e 0e6|_=>263 1|_=>.N (181 1)|_=>α->β->γ->Prop|_=>.i 3|_=>dT p|_=>.f .bA|_=>I.cz H|_=>{s with a1:=k}|_=>by exact 24e5|_=>7 24e4|_=>(101 b []).U|_=>.ad []|_=>⟨_,H⟩|_=>[aD.U+1<=16777216]|_=>.ag kb|_=>.l 126|_=>44 ?_|_=>(x.aJ:K)|_=>.a4 h|_=>.l 43|_=>(16e2).aL|_=>5 a|_=>R ez|_=>D iQ|_=>(26e9).2|_=>gQ R|_=>.aB "tuple"|_=>33 132|_=>.aB "bytearray"|_=>λa a h'=>h'|_=>aH.cj P|_=>.aB "bytes"|_=>.cp vs|_=>([]:0e0)|_=>0 (-16)|_=>ba 31e6|_=>aZ ?_|_=>.Z 15|_=>11 r|_=>233 E|_=>(ba 7e0).1|_=>.az B2 bO|_=>.l 164|_=>.bl 26e6 50 []|_=>D.lD 11e7|_=>D.cZ.bn H|_=>0 64526|_=>nX C s.M.O.an|_=>.ag ln|_=>0 32|_=>138 al|_=>182 ?_|_=>284 aI|_=>62 o1|_=>⟨us⟩|_=>ar α|_=>.N sl|_=>.aa u|_=>.l 49|_=>.Z 56|_=>.Z 57|_=>b.m i|_=>76 a|_=>128 v|_=>dP bS r|_=>373 b|_=>ef ts aD|_=>x.aL 24|_=>by rw[lc];kernel_rfl|_=>.bp false false|_=>ar.hh.mp e|_=>x.A.hG _|_=>2 b.c1|_=>2 b.c0|_=>KO app|_=>G ab.cY|_=>D (apv×af)|_=>(ba 7e0).2|_=>I.nD _|_=>a.ah 5|_=>.au cO|_=>48 au|_=>77 []|_=>71 [] h'|_=>⟨aP⟩|_=>it.at F k|_=>bH ?_|_=>.N 38|_=>.N it|_=>(1e2).e6|_=>oc mL|_=>117 e|_=>D (K×V)|_=>by rw[h];rfl|_=>∀p∈ob,p|_=>ab.dB 5e5|_=>.bp false|_=>0 64529|_=>259 2e6|_=>2 b.fc|_=>(".0" :am)|_=>.q true|_=>ar (al×al)|_=>G 17e1|_=>(s.M.O.an,[])|_=>nm 100|_=>r.aF f|_=>138 iM|_=>D (I×α)|_=>0 (-17)|_=>72 b'|_=>dP bS r1|_=>(s.M.b6 nW).b6|_=>k8 aq|_=>.l 58|_=>.l 93|_=>nm 31|_=>119 b|_=>403 n|_=>.aX g as|_=>{s with M:=h'}|_=>.l 132|_=>b'.aO.aj bB|_=>ar.la.mp e|_=>λe=>rfl|_=>KL x.w.bV|_=>D.dS n.aJ|_=>.g5 3e5|_=>2 30e6|_=>79 2e6|_=>s.M.ao e|_=>s.M.ao c|_=>ar 0e0|_=>.v 17e1|_=>ab.dB n|_=>3 181|_=>.a 207 182|_=>G p.2|_=>V.y i true|_=>I.qm _|_=>.l 139|_=>a.ah 4|_=>0 37|_=>138 δ|_=>8 pI|_=>154 β|_=>71 aC s'.M|_=>.v 6 (65 43 0)|_=>apv->V->Prop|_=>x.A.dY.aj _|_=>I.h8 hL.bi|_=>fn.jr as.U|_=>x.ab.dB id|_=>0 64527|_=>2 8e2|_=>.cu (bT 459) (rX 2e7)|_=>.cu (bT 459) (rX 3e9)|_=>λi=>i|_=>[s.M.O.an]|_=>∃l,x.A.dY=G l|_=>(b9 [v]:b5 2e5)|_=>KW w.bV|_=>jn×apw|_=>0 apt|_=>(apt.U:K)|_=>7 ()|_=>I.rI _|_=>d7 app|_=>6 []|_=>39 bN|_=>48 aD|_=>73 en|_=>7e6==10|_=>.aB "bytearray_iterator"|_=>.bJ "Exception.__new__"|_=>(((b.aO.aj bB)).U:K)|_=>x.ab.dB 5e5|_=>by rw[w];rfl|_=>ar PySem.a0|_=>cm.rz x.w.bV 4e6|_=>I.iq 9e1|_=>{s with a1:=s.a1+1}|_=>280 (s % 256)|_=>b9 false|_=>(ps.aj nm).fx|_=>fq 7e5|_=>I.f0 q|_=>.aB apq|_=>h'.ao e|_=>D.dS 51|_=>D.dS 62|_=>0 209|_=>33 155|_=>33 162|_=>106 l.U|_=>.N apr|_=>.l 108|_=>.au au|_=>K.rP k|_=>qZ apq|_=>138 mf|_=>37 cO|_=>7e6==11|_=>x.ab.bt=sc|_=>162 bN a5|_=>.aB "StopIteration"|_=>((bP.mk aP).an:K)|_=>0 4294967295|_=>{b with c2:= 0e6}|_=>{b with apr:=1}|_=>D.cZ.mp r|_=>apz.x 7e5|_=>λr=>rfl|_=>λ_=>rfl|_=>λf=>rfl|_=>.aB "zip"|_=>105 46e9|_=>x.aL 100|_=>dt.aj bB|_=>α->β->γ->δ->Prop|_=>.r (.c 30e8)|_=>m.i9 50e7 l|_=>bT 1213|_=>jv.mp q|_=>h0.ao a|_=>λa p=>(W a p).1|_=>bE S L (G 6)|_=>.aB "type"|_=>∀mL,∀p∈nn mL,p|_=>x.A.hZ ab|_=>.bp true false|_=>.aB "enumerate"|_=>.aB "function"|_=>h'.ao s.M.O.an|_=>λh h h'=>h'|_=>n % 4294967296|_=>by rw[h]<;>rfl|_=>s.kK 2e2 "bytearray"|_=>dN ([.y (s.ah 256) true]:0e0) n|_=>{s with M:=h1}|_=>λi=> 14e8|_=>be.cg i.aJ|_=>λz=>rfl|_=>λmL=>a5|_=>386 4e4 (s1.M.ao a)|_=>A.hG (384 us)|_=>D.eS.mp s|_=>D.eS.mp r|_=>0 64521|_=>0 64528|_=>0 64525|_=>0 b.apr|_=>((k+1:I):K)|_=>.d3 25e0|_=>kp C s.M.O.an|_=>0 8e2|_=>0 31e3|_=>2 7e6|_=>6 47e7|_=>183 1e2|_=>320 27e2|_=>386 4e4 18e4|_=>P.jU R _ (.y ..)|_=>2 (x.ah 100)|_=>.aB "dict"|_=>n % 18446744073709551616|_=>((lo.ak 0 (kO us.U):I):K)|_=>λh h q=>q.ak|_=>λl p=>iU l p.1 p.2|_=>D Internal.apq|_=>((b.tb app).U:K)|_=>342 s1.M.O.an|_=>qt ?_ (by size_fits)|_=>{b with apr:=3}|_=>386 14e4 18e4|_=>af.aB "list"|_=>λa a z=>z|_=>23 (yB ..)|_=>am.pj "law"|_=>(ar.qa ..).mp|_=>(∀p∈ob,p)|_=>ai.tV 11e7|_=>apz.x 27e9|_=>λh=>rfl|_=>360 50e3 (.bw #[])|_=>ar.G.cF h|_=>λp=>37e6|_=>D.cZ.mp h|_=>D.cZ.mp q|_=>λi=>37e7|_=>oV P.nR.1|_=>K.jX.mp s|_=>.aB "code"|_=>(⟨w,mR.hZ ab,ab,s.os,false⟩:Fx)|_=>((lo.ak 0 (kO (bP.mk b).an):I):K)|_=>by unfold dT;rw[q];simp|_=>Dq aq (by unfold hJ;decide)|_=>sm.ah 4294967296|_=>((b.aO.aj bB).U:K)|_=>.aB "traceback"|_=>λx x h'=>h'|_=>Internal.R α|_=>λx x h=>h|_=>by rw[s];rfl|_=>λh h e=>e|_=>Oq.Os s₀.M|_=>23 (Mn ..)|_=>C1 (λP d O T=>av) 24e5|_=>{s with a1:=t}|_=>((b.tb x).U:K)|_=>R.lz e λes n q=>by rw[hd]at q;cases q|_=>af.bJ "BaseException.__getattribute__"|_=>qV ⟨λh=>by injection h,λh=>by rw[h]⟩|_=>(match f with| .bk v=>v|_=> .L)|_=>G (.bJ "object.__setattr__")|_=>bL s (by unfold Q3;decide)|_=>.bJ "type.__call__"|_=>l.aj Internal.apq.n|_=>DE ?_ (by intro x;cases x)|_=>λq e=>by rw[42e5,<-e];rfl|_=>("__classdict__" :am)|_=>W.to λa p=>?_|_=>K×K×K×K×K×K|_=>R.lz u λapA apA q=>by rw[hd]at q;cases q|_=>R.lz j λes n q=>by rw[hd]at q;cases q|_=>P.aF λa aS w s1 u1 p v r1 e=>?_|_=>r8 λvs q=>by rw[hd]at q;cases q|_=>I.cz (by cases sh<;>kernel_rfl)|_=>("bytearray.__release_buffer__" :fH)|_=>af.bJ "object.__getattribute__"|_=>r8 λvs e=>nomatch h.bi.aV e|_=>⟨ob,e,by cases ob<;>first|rfl|exact P.ak⟩
section
def nN{α:Type}{a:α}{C:Prop}(e:L=11e3):C:=bL e nofun
def apI{α:Type}{a:α}{C:Prop}(e:11e3=L):C:=bL e nofun
def nF{C:Prop}(e:false=true):C:=al.Ov e
def nG{C:Prop}(e:true=false):C:=al.Ov e
def XU{P:Prop}(h:∀apx:Prop,(P->apx)->apx):P:=h P id
universe e
section
def oA{P:Prop}{Q:Prop}{apx:Prop}(h:P/\Q)(g:P->Q->apx):apx:=209 (g s h)
def oE{α:7e1}{P:20e2}{apx:Prop}(h:∃a:α,P a)(g:∀a:α,P a->apx):apx:=312 (g a h)
def aN{α:7e1}{P:20e2}{Q:20e2}{apx:Prop}(h:∃a:α,P a/\Q a)(g:∀a:α,P a->Q a->apx):apx:=312 (209 (g a s h))
def qh{α:7e1}{β:7e1}{P:17e7}{apx:Prop}(h:∃a:α,∃b:β,P a b)(g:∀a:α,∀b:β,P a b->apx):apx:=366 (g a b h)
def hV{P:Prop}{Q:Prop}{R:Prop}{apx:Prop}(h:P/\Q/\R)(g:P->Q->R->apx):apx:=313 (209 (g x s h))
def sO{α:7e1}{P:Prop}{Q:20e2}{apx:Prop}(h:P/\∃a:α,Q a)(g:P->∀a:α,Q a->apx):apx:=209 (312 (g s a h))
def dU{α:7e1}{P:20e2}{Q:20e2}{R:20e2}{apx:Prop}(h:∃a:α,P a/\Q a/\R a)(g:∀a:α,P a->Q a->R a->apx):apx:=312 (313 (209 (g a x s h)))
def gd{α:7e1}{β:7e1}{P:17e7}{Q:17e7}{apx:Prop}(h:∃a:α,∃b:β,P a b/\Q a b)(g:∀a:α,∀b:β,P a b->Q a b->apx):apx:=366 (209 (g a b s h))
def np{α:7e1}{β:7e1}{γ:7e1}{P:24e1}{apx:Prop}(h:∃a:α,∃b:β,∃c:γ,P a b c)(g:∀a:α,∀b:β,∀c:γ,P a b c->apx):apx:=347 (g a b c h)
def lJ{P:Prop}{Q:Prop}{R:Prop}{S:Prop}{apx:Prop}(h:P/\Q/\R/\S)(g:P->Q->R->S->apx):apx:=302 (g e s x h)
def jB{α:7e1}{β:7e1}{P:17e7}{Q:17e7}{R:17e7}{apx:Prop}(h:∃a:α,∃b:β,P a b/\Q a b/\R a b)(g:∀a:α,∀b:β,P a b->Q a b->R a b->apx):apx:=366 (313 (209 (g a b x s h)))
def oo{α:7e1}{β:7e1}{γ:7e1}{P:24e1}{Q:24e1}{apx:Prop}(h:∃a:α,∃b:β,∃c:γ,P a b c/\Q a b c)(g:∀a:α,∀b:β,∀c:γ,P a b c->Q a b c->apx):apx:=347 (209 (g a b c s h))
def gq{α:7e1}{P:Prop}{Q:Prop}{R:20e2}{S:20e2}{apx:Prop}(h:P/\Q/\∃a:α,R a/\S a)(g:P->Q->∀a:α,R a->S a->apx):apx:=h.ak λe h=>209 (312 (313 (g e s a x h)))
def gF{α:7e1}{β:7e1}{P:20e2}{Q:20e2}{R:17e7}{apx:Prop}(h:∃a:α,P a/\Q a/\∃b:β,R a b)(g:∀a:α,P a->Q a->∀b:β,R a b->apx):apx:=312 (313 (209 (h.ak λb h=>g a x s b h)))
def sP{α:7e1}{P:20e2}{Q:20e2}{R:20e2}{S:20e2}{apx:Prop}(h:∃a:α,P a/\Q a/\R a/\S a)(g:∀a:α,P a->Q a->R a->S a->apx):apx:=312 (302 (g a e s x h))
def zu{P:Prop}{Q:Prop}{R:Prop}{S:Prop}{apq:Prop}{apx:Prop}(h:P/\Q/\R/\S/\apq)(g:P->Q->R->S->apq->apx):apx:=302 (h.ak λs' h=>g e s x s' h)
def jC{α:7e1}{β:7e1}{P:17e7}{Q:17e7}{R:17e7}{S:17e7}{apx:Prop}(h:∃a:α,∃b:β,P a b/\Q a b/\R a b/\S a b)(g:∀a:α,∀b:β,P a b->Q a b->R a b->S a b->apx):apx:=366 (302 (g a b e s x h))
def uE{α:7e1}{β:7e1}{γ:7e1}{P:24e1}{Q:24e1}{R:24e1}{apx:Prop}(h:∃a:α,∃b:β,∃c:γ,P a b c/\Q a b c/\R a b c)(g:∀a:α,∀b:β,∀c:γ,P a b c->Q a b c->R a b c->apx):apx:=347 (313 (209 (g a b c x s h)))
def k7{α:7e1}{β:7e1}{γ:7e1}{P:24e1}{Q:24e1}{R:24e1}{S:24e1}{apx:Prop}(h:∃a:α,∃b:β,∃c:γ,P a b c/\Q a b c/\R a b c/\S a b c)(g:∀a:α,∀b:β,∀c:γ,P a b c->Q a b c->R a b c->S a b c->apx):apx:=347 (302 (g a b c e s x h))
def Ow{α:7e1}{β:7e1}{γ:7e1}{δ:7e1}{P:45e8}{Q:45e8}{R:45e8}{apx:Prop}(h:∃a:α,∃b:β,∃c:γ,∃d:δ,P a b c d/\Q a b c d/\R a b c d)(g:∀a:α,∀b:β,∀c:γ,∀d:δ,P a b c d->Q a b c d->R a b c d->apx):apx:=347 (h.ak λd h=>313 (209 (g a b c d x s h)))
def qi{α:7e1}{β:7e1}{γ:7e1}{δ:7e1}{P:45e8}{Q:45e8}{R:45e8}{S:45e8}{apx:Prop}(h:∃a:α,∃b:β,∃c:γ,∃d:δ,P a b c d/\Q a b c d/\R a b c d/\S a b c d)(g:∀a:α,∀b:β,∀c:γ,∀d:δ,P a b c d->Q a b c d->R a b c d->S a b c d->apx):apx:=347 (h.ak λd h=>302 (g a b c d e s x h))
def uF{α:7e1}{β:7e1}{P:17e7}{Q:17e7}{R:17e7}{S:17e7}{apq:17e7}{apx:Prop}(h:∃a:α,∃b:β,P a b/\Q a b/\R a b/\S a b/\apq a b)(g:∀a:α,∀b:β,P a b->Q a b->R a b->S a b->apq a b->apx):apx:=366 (302 (h.ak λs' h=>g a b e s x s' h))
def zv{P:Prop}{Q:Prop}{R:Prop}{S:Prop}{apq:Prop}{apA:Prop}{apx:Prop}(h:P/\Q/\R/\S/\apq/\apA)(g:P->Q->R->S->apq->apA->apx):apx:=302 (h.ak λs' h=>h.ak λt' h=>g e s x s' t' h)
def sQ{α:7e1}{β:7e1}{γ:7e1}{P:24e1}{Q:24e1}{R:24e1}{S:24e1}{apq:24e1}{apA:24e1}{apx:Prop}(h:∃a:α,∃b:β,∃c:γ,P a b c/\Q a b c/\R a b c/\S a b c/\apq a b c/\apA a b c)(g:∀a:α,∀b:β,∀c:γ,P a b c->Q a b c->R a b c->S a b c->apq a b c->apA a b c->apx):apx:=347 (302 (h.ak λs' h=>h.ak λt' h=>g a b c e s x s' t' h))
universe e
section
open PySem PySem.W PyProof.Rows
set_option backward.match.sparseCases false
def DA{a b:al}(h:a=true)(k:b=true):(a&&b)=true:=by rw[h,k];rfl
def abq:PySem.W.nq.Ox PySem.Challenge.rw_nm0174_01=true:=by
 delta PySem.W.nq.Ox;refine(_&&_)=true;show DA ?_ ?_
 ·delta PySem.W.nq.tw17960256430627541270 PySem.W.nq.tw2436336058641802641 PySem.W.nq.tw12908688711261696721;refine(_&&_)=true;repeat' (with_reducible show DA ?_ ?_)
  all_goals as_aux_lemma=>kernel_rfl
 ·repeat' (with_reducible show DA ?_ ?_)
  all_goals as_aux_lemma=>kernel_rfl
def said:PySem.Challenge.rw_nm0174_01.zw=true:=by
 rw[show @PySem.W.Oy.zw=PySem.W.nq.Ox from PySem.W.nq.te9446332074065402090];exact abq
universe e
section
open PySem
set_option backward.match.sparseCases true
def zx:fS->al
 | .bJ id _=>Builtin.dH.wx.hW id
 |_=>false
def Cl(l:D (fS×dA)):Prop:=∀c∈l,zx c.1=false
def aM{α:Type}(apB:iB)(A:dg)(t:9e4)(Q:14e6)(E:0e5)(s:ae):Prop:=
 ∀Γ p,Γ.In A->zx Γ.dI=false->Cl Γ.uG->b5.wp apB Γ t (λa h s'=>Q a s') (λe h s'=>E e s') p s
def e8(apB:iB)(A:dg)(c:fS)(R:43e9)(s:ae):Prop:=
 ∀Γ p,Γ.dI=c->Γ.Below A->Cl Γ.uG->wpCode apB Γ R p s
section
variable{α β:Type}{apB:iB}{A:dg}{E:af->ae->Prop}{s:ae}
def aM.of{t:9e4}{Q:14e6}(h:68 t):29 t:=λΓ p x e e=>h Γ p x
def ey{m m':9e4}{Q:14e6}(h:m=m')(apz:29 m'):29 m:=h▸apz
def qj{m m':9e4}{Q:14e6}(h:m=m')(apz:68 m'):68 m:=h▸apz
def bH{a:α}{Q:14e6}(h:Q a s):29 (b9 a):=λx x x x x=>h
def XV{e:af}{Q:14e6}(h:E e s):29 (throw e:9e4):=λx x x x x=>h
def eX{t:9e4}{Q x:14e6}{b:0e5}(h:29 t)
  (hQ:∀a s,Q a s->x a s) (hE:∀e s,E e s->b e s):108 t x b s:=
 λΓ p m hd k=>b5.zy apB Γ t (λa r s=>hQ a s) (λe r s=>hE e s) p s (h Γ p m hd k)
def aZ{m:9e4}{f:α->b5 β}{Q:12e2}(h:108 m (λa s'=>108 (f a) Q E s') E s):
  29 (m>>=f):=λΓ p x hd b=>by
 rw[b5.wp_bind'];exact b5.zy apB Γ m (λa r s' h'=>h' Γ r x hd b) (λe e e h'=>h') p s (h Γ p x hd b)
def eQ{m:9e4}{f:α->b5 β}{Q:12e2}(h:aY apB A m (λa s'=>108 (f a) Q E s') E s):
  29 (m>>=f):=166 h
def pR(apB:iB)(A:dg)(k:α->b5 β)(Q:12e2)(E:0e5):14e6:=λa s'=>kx->108 (k a) Q E s'
def ff{m:9e4}{f:α->b5 β}{Q:12e2}(h:aY apB A m (pR apB A f Q E) E s):29 (m>>=f):=148 h (λx x h=>h d2) 54e1
def mg{c:Prop}[rg c]{t e:9e4}{Q:14e6}(h:¬c)(apz:kx->kx->29 e):29 (fg c t e):=ey (d6 h) (apz ⟨⟩ ⟨⟩)
def wy{c:Prop}[rg c]{t e:9e4}{Q:14e6}(h:c)(apz:29 t):29 (fg c t e):=ey (eY h) apz
def apJ(apB:iB)(A:dg)(k:α->b5 β)(Q:12e2)(E:0e5):14e6:=λa s'=>kx->aY apB A (k a) Q E s'
def cL{m:9e4}{f:α->b5 β}{Q:12e2}(h:aY apB A m (apJ apB A f Q E) E s):68 (m>>=f):=bg (hY h (λx x h=>h d2) 54e1)
def sR{c:Prop}[rg c]{t e:9e4}{Q:14e6}(h:¬c)(apz:kx->kx->68 e):68 (fg c t e):=qj (d6 h) (apz ⟨⟩ ⟨⟩)
def pc{c:Prop}[rg c]{t e:9e4}{Q:14e6}(h:c)(apz:68 t):68 (fg c t e):=qj (eY h) apz
def iL{m:9e4}{f:α->b5 β}{Q:12e2}(h:108 m (pR apB A f Q E) E s):29 (m>>=f):=aZ (eX h (λx x h=>h d2) 54e1)
def uH{c:Prop}[rg c]{t e:9e4}{Q:14e6}(h:¬c)(apz:29 e):29 (fg c t e):=ey (d6 h) apz
def k8{c:Prop}[rg c]{t e:9e4}{Q:14e6}(h:¬c)(apz:68 e):68 (fg c t e):=qj (d6 h) apz
def wz{m:9e4}{k:af->b5 ez}{Q:14e6}
  (h:108 m Q (λe s'=>108 (k e) (λx n=>E e n) E s') s):29 (m.qk k):=λΓ p b hd a=>by
 rw[b5.wp_onRaise];exact b5.zy apB Γ m (λx x x h'=>h') (λe r s' h'=>h' Γ r b hd a) p s (h Γ p b hd a)
def wB{m:9e4}{Q:Except af α->ae->Prop}(h:108 m (λa=>Q (.Y a)) (λe=>Q (.dJ e)) s):
  29 m.DB:=λΓ p x hd b=>by rw[b5.wp_attempt];exact h Γ p x hd b
def dh{vs:2e5}{m:9e4}{Q:14e6}(h:29 m):29 (gr vs m):=
 λΓ p x hd e=>by rw[b5.wp_holding];exact h Γ p x hd e
def XW{vs:2e5}{m:9e4}{Q:14e6}(h:29 m):29 (m.bS vs):=
 λΓ p x hd e=>by rw[b5.wp_keep];exact h Γ p x hd e
def eM{aU:dA}{Q:17e3}(h:Q () s):29 (ky aU):=λx x x x x=>h
def Cl.sS{Γ:Ctx}{p:dA}(hd:zx Γ.dI=false)(x:Cl Γ.uG):Cl ((Γ.dI,p)::Γ.uG):=by
 intro c s;rcases 48e5 with H|h
 ·exact hd
 ·exact x c h
def DC{c:fS}{h:12e4}{Q:34e6}
  (hc:e8 apB (A.mark h) c (367 f (E e s')) s) (DD:h≠G byPass):
  29 (dj c h):=
 λΓ p x hd a=>by rw[b5.wp_run];exact hc _ p H (x.sS c h p DD) (Cl.sS hd a)
def XX{c:fS}{Q:0e5}
  (hc:e8 apB A c (413 v (E e s')) s):
  29 (runValue c):=λΓ p h hd a=>by rw[b5.wp_runValue];exact hc _ p H (h.sS c L p (by intro x;cases x)) (Cl.sS hd a)
def rh{f:af}{aU:2e5}{h:284 af}{Q:0e5}
  (hc:e8 apB A (.aX f ⟨aU,h⟩) (413 v (E e s')) s):
  29 (aX f aU h):=XX hc
def mh{c:fS}{R:43e9}(hd:zx c=false)
  (h:aM apB (A.hG c) (apB.g8 c) (λeg s'=>match eg with| .kz f=>219 f s'| .mi x=>x.sT=true/\e8 apB A x R s')
   (14e7) s):e8 apB A c R s:=λΓ p a k r=>by
 rw[wpCode_iff_wp,a];show b5.zy apB Γ _ (λeg m s' h'=>?_) (λb b b h'=>h') p s (h Γ p (a▸k.in) (a▸hd) r);cases eg with
 |done f=>exact h'
 |mi x=>exact⟨h'.1,h'.2 (Γ.goto x) m H (k.goto x) r⟩
def zA{c:fS}{R x:43e9}(h:e8 apB A c R s)(k:∀r s,R r s->x r s):e8 apB A c x s:=
 λΓ p e b a=>wpCode_mono k (h Γ p e b a)
def zB{ab:eA}{m:9e4}{Q:14e6}(h:108 m Q (j6 apB A ab E) s):29 (m.qk λx=>do mT x ab;zC x):=
 wz (eX h (λa a q=>q) λa a b=>aM.of (bg (hY b (λa a e=>wpAny_theTreesLotGoes e) λa a e=>e)))
def DE{ab:eA}{c:fS}{h:12e4}{Q:34e6}
  (hc:e8 apB (A.mark h) c (367 f (zD apB A ab E e s')) s) (DD:h≠G byPass):
  29 (zE c ab h):=by
 unfold zE;exact wz (eX (DC hc DD) (λx x q=>q) λx x h=>aM.of h)
def wC(A:dg):A.mark L=A:=by
 cases A;rfl
universe e
section
variable{bc:gT}{w:eB}{A:dg}{E:af->ae->Prop}{s:ae}{R:mf->ae->Prop}
def Oz{mU:11e1}{ab:eA}
  (h:134 A (mj mU ab) (λf s'=>219 f s') (j6 6e2 A ab 14e7) s):96 A (.DF mU ab) R s:=by
 show mh H ?_;refine aM _ _ (do return kB.kz (<-407 (mj mU ab))) _ _ s;exact aZ (zB (eX h (λf s' h'=>bH h') 26e8))
def OB{cX:11e1}{ab:eA}
  (h:aM 6e2 (A.hZ ab) (mj cX ab) (λf s'=>333 55e2 s')
   (λe s'=>273 w (A.hZ ab) (rj ab e) (λa x=>R (.dJ e) x) (λb x=>R (.dJ b) x) s') s):
  96 A (.ml cX ab) R s:=by
 show mh H ?_;refine aM _ (A.hZ ab) (do wD;match<-(mj cX ab).qk (rj ab)with| .bk v=>bk v|_=>bk .L) _ _ s;show 166 (OC (aZ (wz (eX h (λf s' h'=>?_) λa a h'=>aM.of h'))));cases f<;>exact bH h'
def OD{a:aI}{r:Args}{o:aA}{fd:jD}{cX:11e1}(j:A.g9<DG)
  (ho:4e4=0e4)
  (DH:o.bf= .ml fd) (hco:fd.bt.zF=false) (DI:fd.bt.zG=false) (DJ:fd.cX= .mU cX) (ql:s.M.zH fd.dI fd.pd)
  (h:aY (bh bc w) A.fh (DL fd r) (λv p=>
   aY (6e2) A.fh (zI fd.bt fd.ha fd.rk v (fd.pd++ ".<locals>.") 11e3 fd.dI L fd.jE)
    (λab b=>b.M.OE/\96 A (.ml cX ab) R b) (14e7) p) 14e7 s):
  96 A (.aX 2e2 r) R s:=by
 show mh H ?_;refine aM _ A.fh (sU 2e2 r) _ _ s;dsimp-fu only[sU];show eQ (rm ho ?_);(show qi ql λc oc vs d k u q i=>?_;try clear ql);simp only[DH,XY,hco,DI,DJ,k];rw[k]at h;show eQ (m:=ro (.N c) 1) (hH u q i 29e0);exact 148 h (λv p l=>148 l (λab b n=>eQ (XZ n.1 j
  (bH (i4.nr H n.2)))) 53e9) 53e9
def zJ{a:a0}{cX:11e1}{ab:eA}
  (h:aM 6e2 A (sV a ab (78 a)) (λb n=>
    if b then 134 A (mj cX ab) (λf r=>match f with
      | .bA| .zK=>96 A (.DM a cX [] ab) R r
      | .brk=>219 .bA r
      | .bk v=>333 v r) (j6 6e2 A ab 14e7) n
    else 219 .bA n)
    (j6 6e2 A ab 14e7) s):96 A (.DM a cX [] ab) R s:=by
 show mh H ?_;refine aM _ A (407 (X0 a cX [] ab)) _ _ s;show zB ?_;dsimp-fu only[X0];show aZ (eX h (λb n p=>?_) λm m h'=>h');cases b with
 |false=>
  simp-fu only[al.zL,zM]at p⊢;exact 166 (zN (bH p))
 |true=>
  simp-fu only[wE]at p⊢;show aZ (eX p (λf r k=>?_) λm m h'=>h');cases f with
  |next=>exact bH (238 k)
  |zK=>exact bH (238 k)
  |brk=>exact bH k
  |bk v=>exact bH k
universe e
set_option backward.match.sparseCases false
section
variable{α:Type}(apB:iB)(A:dg)
abbrev Rn(α:Type):=D aA->ae->6e1×9e4×ae
def rn(t:9e4):Rn α:=b5.rp (wF:=λx=>Rn α)
 (λa x s=>([],.b9 a,s)) (λe x s=>([],.raise e,s)) (λw x s=>([],.X1 w,s)) (λe x s=>([],.finish e,s))
 (λx x ih=>ih ()) (λx x ih=>ih ())
 (λa p k ih apt s=>420 ([],.zO a p k,s) o apt s ((4e4=0e4)::r.1,r.2))
 (λa p f k ih apt s=>420 ([],.eN a p f k,s) () apt {s with M:=s.M.eN a f} ((4e4=0e4)::r.1,r.2))
 (λo k ih apt s=>ih s.M.O.an apt (281 o))
 (λa k ih apt s=>420 ([],.DN a k,s) 0e4 apt s ((4e4=0e4)::r.1,r.2))
 (λx x ih=>ih ()) (λa k x x s=>([],.register a k,s))
 (λk ih apt s=>ih s.a1 apt 42e0) (λk ih=>ih ⟨apB.bc,apB.w.bV⟩)
 (λiN n k x x s=>([],.choose iN n k,s)) (λq l k x x s=>([],.os q l k,s)) (λc h g l k x x s=>([],.aX c h g l k,s))
 (λd3 k ih apt s=>al.rp (ih A.e9 apt s) ([],.e9 true k,s) d3)
 (λc k x x s=>([],.newGen c k,s)) (λg k x x s=>([],.genState g k,s)) (λg r l k x x s=>([],.resume g r l k,s)) (λv g l k x x s=>([],.uI v g l k,s))
 (λk x x s=>([],.il k,s)) (λc k x x s=>([],.fork c k,s)) (λk ih=>ih 0) (λa t d l k x x s=>([],.await a t d l k,s)) t
def DO{p:Prop}{l:6e1}(h:∀q∈p::l,q):p/\∀q∈l,q:=⟨h _ (.rq _),λq m=>h q (.mm _ m)⟩
def OF{β α:Type}{apB:iB}{Γ:Ctx}{k:β->9e4}{x app:β}{Q:α->dA->ae->Prop}{E:af->dA->ae->Prop}{p:dA}{s:ae}(e:x=app)(h:b5.wp apB Γ (k app) Q E p s):b5.wp apB Γ (k x) Q E p s:=e▸h
def X2(Q:14e6)(E:0e5)(Γ:Ctx)(t:9e4):Prop:=∀(apt:D aA) (s:ae) (p:dA),(∀q∈(rn apB A t apt s).1,q)->(∀p,b5.wp apB Γ (rn apB A t apt s).2.1 (λa h s'=>Q a s') (λe h s'=>E e s') p (rn apB A t apt s).2.2)->b5.wp apB Γ t (λa h s'=>Q a s') (λe h s'=>E e s') p s
def X3{Q:14e6}{E:0e5}{Γ:Ctx}(b:Γ.e9=A.e9)(t:9e4):X2 apB A Q E Γ t:=by
 induction t with
 |pe _ _ ih=>exact ih ()
 | «at» _ _ ih=>exact λapt s p=>ih () apt s _
 |zO a _ k ih=>exact λapt s p=>match apt with
  | []=>λe h=>h p
  |o::apt=>λx h=>have x:=DO (l:=(rn apB A (k o) apt s).1) x;⟨o,x.1,ih o apt s p x.2 h⟩
 |eN a _ f k ih=>exact λapt s p=>match apt with
  | []=>λe h=>h p
  |o::apt=>λx h=>have x:=DO (l:=(rn apB A (k ()) apt {s with M:=s.M.eN a f}).1) x;⟨ar.mV.bn ⟨o,x.1⟩,ih () apt _ p x.2 h⟩
 |alloc o k ih=>exact λapt s p=>ih _ apt _ p
 |DN a k ih=>exact λapt s p=>match apt with
  | []=>λe h=>h p
  |o::apt=>λx h=>have x:=DO (l:=(rn apB A (k 0e4) apt s).1) x;OF (k:=k) x.1 (ih 0e4 apt s p x.2 h)
 |wD _ _ ih=>exact ih ()
 |fm k ih=>exact λapt s p=>ih _ apt _ p
 |ask k ih=>exact ih _
 |e9 d3 k ih=>
  cases d3 with
  |false=>exact λapt s p x h=>OF (k:=k) b (ih _ apt s p x h)
  |true=>exact λe e p e h=>h p
 |OG k ih=>exact ih 0
 |_=>exact λe e p e h=>h p
universe e
section
variable{α:Type}{apB:iB}{A:dg}{Q:α->ae->Prop}{E:af->ae->Prop}{s s':ae}{t t':b5 α}{ps:D Prop}
def X4(apt:D aA)(e:rn apB A t apt s=(ps,t',s'))(a:∀q∈ps,q)(h:aY apB A t' Q E s'):68 t:=
 λΓ p x=>X3 apB A x.1 t apt s p (by rw[e];exact a) λp=>by rw[e];exact h Γ p x
def sW(apt:D aA)(e:rn apB A t apt s=(ps,.b9 v,s'))(x:∀q∈ps,q)(h:Q v s'):68 t:=X4 apt e x 22e2
universe e
universe e
section
open PySem PySem.W PyProof.Rows
set_option backward.match.sparseCases true
def jF:dR->I->ar aA
 | [],_=>L
 |p::l,a=>142 p.1 a 37e6 (jF l a)
def wG{i j:I}{o o':aA}{l:dR}(h:jF ((i,o)::l) j=G o'):(j=i/\o'=o)\/(j≠i/\jF l j=G o'):=by
 have h:142 i j 0e4 (jF l j)=G o':=h;cases e:I.bZ i j with
 |true=>rw[e]at h;exact .a4 ⟨(I.f0 e).bi,(52e4).bi⟩
 |false=>rw[e]at h;exact .aE ⟨λq=>I.ne_of_beq_eq_false e q.bi,h⟩
def DP{a:I}{o:aA}{l:dR}(h:jF l a=0e4):(a,o)∈l:=by
 induction l with
 |aR=>cases h
 |aQ p l ih=>
  rcases wG h with⟨H,H⟩|⟨_,h⟩
  ·exact .rq _
  ·exact .mm _ (ih h)
structure Sp where
 kt:dR
 n:I
 tk:I
structure rr(S:Sp)(s:ae):Prop where
 an:s.M.O.an=S.n
 a1:s.a1=S.tk
 jG:∀a o,jF S.kt a=G o->s.M.ao a=G o
structure Kept(S:Sp)(s s':ae):Prop where
 dD:s'.dD=s.dD
 oq:s'.oq=s.oq
 os:s'.os=s.os
 sX:s'.M.sX=s.M.sX
 bS:∀a o,s.M.ao a=G o->jF S.kt a=L->s'.M.ao a=G o
def sY(g8:fS->b5 kB)(F:zP)(S:Sp):jH->ar (Sp×jH)
 |⟨s,dI,aU,il⟩=>match s with
  | .b9 (.mi c)=>match il with
   | .bk k h g l cd p im::aD=>G (S,⟨g8 c,c,aU,.bk k h g l cd p (keptBy dI c l im)::aD⟩)
   |_=>L
  | .b9 (.kz f)=>match il with
   | .bk k _ _ _ c p _::aD=>G (S,⟨k (.Y f),c,p,aD⟩)
   |_=>L
  | .raise e=>match il with
   | .bk k _ _ _ c p _::aD=>G (S,⟨k (.dJ e),c,p,aD⟩)
   |_=>L
  | .pe _ k=>G (S,⟨k (),dI,aU,il⟩)
  | .at p k=>G (S,⟨k (),dI,p,il⟩)
  | .wD _ k=>G (S,⟨k (),dI,aU,il⟩)
  | .ask k=>G (S,⟨k F,dI,aU,il⟩)
  | .zO a _ k=>(jF S.kt a).aj λo=>(S,⟨k o,dI,aU,il⟩)
  | .DN a k=>(jF S.kt a).aj λo=>(S,⟨k 0e4,dI,aU,il⟩)
  | .eN a _ f k=>(jF S.kt a).cr λo=>cC (f o).DQ L (G (⟨(a,f o)::S.kt,S.n,S.tk⟩,⟨k (),dI,aU,il⟩))
  | .alloc o k=>cC o.DQ L (G (⟨(S.n,o)::S.kt,S.n+1,S.tk⟩,⟨k S.n,dI,aU,il⟩))
  | .fm k=>G (⟨S.kt,S.n,S.tk+1⟩,⟨k S.tk,dI,aU,il⟩)
  | .aX c h g l k=>
   G (S,⟨g8 c,c,aU,.bk k h g l dI aU (match c,dI with
    | .bJ _ a,_=>unmarked a.refs
    | .aX f a,.bJ .. | .aX f a,.aX .. =>unmarked (if l.hW borrowed then a.refs else f::a.refs)
    |_,_=>[])::il⟩)
  | .e9 d3 k=>match d3 with
   |false=>G (S,⟨k (topHandled il),dI,aU,il⟩)
   |true=>L
  | .il k=>G (S,⟨k ((dI,aU)::il.aj Frame.where_),dI,aU,il⟩)
  | .OG k=>G (S,⟨k 0,dI,aU,il⟩)
  |_=>L
def OA{α:Type}(o:29e4)(P:20e2):Prop:=match o with
 |G a=>P a
 |L=>kx
structure nt(S S':Sp)(s s':ae):Prop where
 N:rr S' s'
 im:Kept S s s'
 h7:∀a o,jF S'.kt a=G o->jF S.kt a≠L\/s.M.O.an<=a
 grow:s.M.O.an<=s'.M.O.an
def nt.fF{S:Sp}{s:ae}(R:rr S s):nt S S s s:=⟨R,⟨H,H,H,H,λh h e h=>e⟩,λa o e=> .a4 (by rw[e];simp),11e7⟩
def nt.aV{S h x:Sp}{s r p:ae}(A:nt S h s r)(B:nt h x r p):nt S x s p:=by
 show⟨B.N,⟨B.im.dD.aV A.im.dD,B.im.oq.aV A.im.oq,B.im.os.aV A.im.os,B.im.sX.aV A.im.sX,λa o e b=>?_⟩,λa o e=>?_,I.dV A.grow B.grow⟩
 ·show B.im.bS a o (A.im.bS a o e b) ?_;cases q:jF h.kt a with
  |L=>rfl
  |G o'=>exact(A.h7 a o' q).ak (bL b) λz=>31 9e1 z
 ·rcases B.h7 a o e with z|z
  ·cases q:jF h.kt a with
   |L=>exact bL q z
   |G o'=>exact A.h7 a o' q
  ·exact .aE (I.dV A.grow z)
def SS(g8:fS->b5 kB)(p:gT)(w:eB)(S:Sp)(s:ae)(t:jH)(r:Sp×jH):Prop:=∃s',ou g8 p w s t= .go s' r.2/\nt S r.1 s s'
def SS.fF{g8:fS->b5 kB}{p:gT}{w:eB}{S:Sp}{s:ae}{t x:jH}(R:rr S s)(h:ou g8 p w s t= .go s x):SS g8 p w S s t (S,x):=⟨s,h,.fF R⟩
def OA.aj{α β:Type}{o:29e4}{f:α->β}{P:38e4}(h:∀a,o=11e3->P (f a)):OA (o.aj f) P:=by
 cases o with
 |L=>trivial
 |G a=>exact h a H
def OA.cr{α β:Type}{o:29e4}{f:α->ar β}{P:38e4}(h:∀a,o=11e3->OA (f a) P):OA (o.cr f) P:=by
 cases o with
 |L=>trivial
 |G a=>exact h a H
def OA.cC{β:Type}{b:al}{r:β}{P:38e4}(h:b=false->P r):OA (cC b L (G r)) P:=by
 cases b with
 |true=>trivial
 |false=>exact h H
def OH{g8:fS->b5 kB}{p:gT}{w:eB}{S:Sp}{t:jH}{s:ae}(R:rr S s):OA (sY g8 ⟨p,w.bV⟩ S t) (SS g8 p w S s t):=by
 obtain(⟨j,dI,aU,il⟩):=t;cases j with
 |b9 f=>
  cases f with
  |mi c=>
   cases il with
   |aR=>trivial
   |aQ fr aD=>
    cases fr with
    |gen=>trivial
    |bk k hd g l cd u im=>exact .fF R step_again
  |done f=>
   cases il with
   |aR=>trivial
   |aQ fr aD=>
    cases fr with
    |gen=>trivial
    |bk k hd g l cd u im=>exact .fF R H
 |raise e=>
  cases il with
  |aR=>trivial
  |aQ fr aD=>
   cases fr with
   |gen=>trivial
   |bk k hd g l cd u im=>exact .fF R H
 |pe tag k=>exact .fF R H
 | «at» q k=>exact .fF R H
 |wD l k=>exact .fF R H
 |ask k=>exact .fF R H
 |il k=>exact .fF R H
 |OG k=>exact .fF R H
 |aX c hd g l k=>exact .fF R H
 |e9 d3 k=>
  cases d3 with
  |true=>trivial
  |false=>exact .fF R H
 |zO a q k=>exact OA.aj λo e=> .fF R (by dsimp only[ou];rw[R.jG a o e])
 |DN a k=>exact OA.aj λo e=> .fF R (by dsimp only[ou];rw[R.jG a o e])
 |fm k=>
  obtain(⟨app,g,d,tk,os⟩):=s;cases R.a1;exact⟨_,H,⟨R.an,H,R.jG⟩,⟨H,H,H,H,λm m e m=>e⟩,(nt.fF R).h7,11e7⟩
 |eN a q f k=>
  show OA.cr λo e=>OA.cC λr=>?_;have n:4e4=0e4:=R.jG a o e;have hs:168 a (s.M.eN a f):=ai.fA.eN ..;have i:(s.M.eN a f).ao a=G (f o):=by first|exact ai.kC f n r|exact ai.kC _ n r
  show⟨{s with M:=s.M.eN a f},by simp only[ou,n,ar.isSome_some,wE],⟨hs.1.aV R.an,R.a1,λb o' h=>?_⟩,⟨H,H,H,H,λb o' h v=>(hs.2 b λq=>by rw[q,e]at v;cases v).aV h⟩,λb o' h=>?_,I.h8 hs.1.bi⟩
  ·rcases wG h with⟨H,H⟩|⟨x,h⟩
   ·exact i
   ·exact(hs.2 b x).aV (R.jG b o' h)
  ·rcases wG h with⟨H,H⟩|⟨x,h⟩
   ·exact .a4 λq=>nN (q.bi.aV e)
   ·exact(nt.fF R).h7 _ _ h
 |alloc o k=>
  show OA.cC λr=>?_;have hz:s.M.O.an=S.n:=R.an;show⟨(281 o),by simp only[ou,hz],⟨by refine(s.M.b6 o).O.an=_;rw[ai.iO,hz],R.a1,λb o' h=>?_⟩,⟨H,H,H,H,λb o' h m=>ai.er _ h⟩,λb o' h=>?_,by refine _<=(s.M.b6 o).O.an;rw[ai.iO];exact 37e8⟩
  ·rcases wG h with⟨H,H⟩|⟨x,h⟩
   ·rw[<-hz];exact ai.fG _ r
   ·exact 117 (R.jG b o' h)
  ·rcases wG h with⟨H,H⟩|⟨x,h⟩
   ·exact .aE (I.h8 hz)
   ·exact(nt.fF R).h7 _ _ h
 |_=>trivial
def sZ(g8:fS->b5 kB)(s:jH->al)(F:zP):I->Sp->jH->ar (iM×Sp×fS×dA)
 |0,_,_=>L
 |n+1,S,t=>match endAt 1 t with
  |G f=>G (f,S,t.dI,t.aU)
  |L=>match s t with
   |false=>L
   |true=>match sY g8 F S t with
    |G r=>sZ g8 s F n r.1 r.2
    |L=>L
def X5(g8:fS->b5 kB)(s:jH->al)(F:zP)(n:I)(S:Sp)(t:jH):sZ g8 s F (n+1) S t=(endAt 1 t).ak (cC (s t) ((sY g8 F S t).cr λr=>sZ g8 s F n r.1 r.2) L) λf=>G (f,S,t.dI,t.aU):=by
 refine sZ g8 s F (n+1) S t=_;kernel_rfl
def OI{tb:fH->ar Builtin}{p:gT}{w:eB}{e:I}{x:12e4}{n:I}:∀{S a:Sp} {t:jH} {s:ae} {f:iM} {c:fS} {q:dA},
  sZ (rt tb) (zQ e x) ⟨p,w.bV⟩ n S t=G (f,a,c,q)->rr S s->
  ∃s',DR tb p w e x 1 n s t=G (f,s',c,q)/\nt S a s s':=by
 induction n with
 |i5=>exact λh u=>nN h
 |hI n m=>
  intro S a t s f c q h R;rw[X5]at h;unfold DR;cases b:endAt 1 t with
  |G g=>rw[b]at h;cases h;exact⟨s,H,.fF R⟩
  |L=>
   rw[b]at h;cases k:zQ e x t with
   |false=>rw[k]at h;cases h
   |true=>
    rw[k]at h;have z:=OH (g8:=rt tb) (p:=p) (w:=w) (t:=t) R;cases hs:sY (rt tb) ⟨p,w.bV⟩ S t with
    |L=>rw[hs]at h;cases h
    |G r=>
     rw[hs]at h z;(show aN z λi e1 A=>?_;try clear z);show aN (m h A.N) λv e2 B=>?_;exact⟨v,by dsimp only;rw[e1];exact e2,A.aV B⟩
set_option backward.match.sparseCases false
abbrev pw:gT:=PySem.Challenge.pw_nm0174_01
def eh(i:I):cn:=(pw.ry.cX[i]?).ge (.uJ nu)
def X6:cn->11e1
 | .ClassDef _ _ _ b _ _ _ _ _ _ _=>b
 |_=>[]
def dk(i j:I):cn:=((X6 (eh i))[j]?).ge (.uJ nu)
def X7:cn->am
 | .DS n _ _ _ _ _ _ _ _ _=>n
 |_=>nu
def DT:cn->X8
 | .DS _ a _ _ _ _ _ _ _ _=>a
 |_=>nu
def uK:cn->11e1
 | .DS _ _ b _ _ _ _ _ _ _=>b
 |_=>[]
def DU:cn->cD
 | .DS _ _ _ _ _ _ s _ _ _=>s
 |_=>nu
def zR(s:cn)(q:am)(h apK cd:af):jD:=
 {gf:=X7 s,pd:=q,bV:=DT s,cX:= .mU (uK s),bt:=DU s,ha:=OJ,rk:=[],zS:=h,DV:= .L,doc:= .L,pyModule:=apK,annotations:=L,dI:=cd,closureTuple:= .L,jE:=mW}
def zT(i k:I):11e1:=(pw.ry.cX.fi i).fI k
def uL:eA:={bt:=pw.ry.bt,cY:=OJ,ha:=OJ,b3:=[],dI:= .N 13,ec:=G 14}
def cT:fS:= .cX (zU pw) uL
def s3:dA:=⟨0,0,0,0⟩
noncomputable def dn:fS->b5 PySem.kB:=PySem.W.nq.tw11892475500146522536 PySem.W.nq.tw14364793385576792824
noncomputable def wH:jH->al:=PySem.W.nq.tw6613529449190102663 11 (47 6)
structure fJ where
 s:I
 k:I
 apC:I
 n0:I
 s4:I
 p0:dA
 s7:D I
 n1:I
 iC:I
 p1:dA
def DW(apu:dR)(s7:D I):dR:=apu.ov λp=>s7.hW p.1
noncomputable def wI(g:fJ)(w:eB)(apu:dR):ar (iM×Sp×fS×dA):=
 sZ dn wH ⟨pw,w.bV⟩ g.apC ⟨DW apu g.s7,g.n0,g.s4⟩ (piecesOf (zT g.s g.k) uL cT g.p0 [uM s3])
def zV(as:D I)(r:ar (iM×Sp×fS×dA)):ar (iM×I×I×fS×dA×D (ar aA)):=
 r.aj λx=>(x.1,x.2.1.n,x.2.1.tk,x.2.2.1,x.2.2.2,as.aj (jF x.2.1.kt))
def S0:am:= "~<module>"
def S1:am:= "~/claim/cut.py"
def cb(A B:am)(t u:I)(apt a:K)(r:I):aA:=(288 #[.ag A t,.ag B (t+1),121 (t+2),3 apt,3 a,1e4,1e4,3 3,.N r,22e6,37e4,.N (r+1),.L,.N (r+2),.N (r+3),.N (r+4),3 u,3 apt,121 (u+1)])
def b4(s:cn)(q:am)(h:af)(A:am)(t r:I):aA:=(316 47e1 (.ml (zR s q h (.ag A t) (.N r))))
def de(P:ay)(s:am)(t:I)(v:af):iQ:=⟨cm.rz P s,.ag s t,v⟩
def S2:am:= "~type.__subclasses__.Exception.0"
def S3:am:= "~type.__subclasses__.Exception.n"
def S4:am:= "~wasmcore.faults"
def S5:am:= "~__init__"
def S6:am:= "~WasmFault.__init__"
def S7:am:= "~__module__"
def S8:am:= "~__firstlineno__"
def S9:am:= "~__static_attributes__"
def lK:am:= "~__weakref__"
def jk:am:= "~__doc__"
def i6:am:= "~WasmFault"
def qn:am:= "~Trap"
def qo:am:= "~Exhausted"
def nv:am:= "~wasmcore.arith"
def qp:am:= "~Misused"
def zW:am:= "~unsigned"
def zX:am:= "~signed"
def zY:am:= "~widened"
def zZ:am:= "~add"
def z0:am:= "~place_in"
def S22:am:= "~narrow_of"
def S23:am:= "~is_unary"
def rA:am:= "~wasmcore.kinds"
def S25:am:= "~reckon2"
def wJ:am:= "~wasmcore.codes"
def OK:am:= "~Sizes.__init__"
def mn:am:= "~__dict__"
def wK:am:= "~Sizes"
def S30:am:= "~is_ref"
def S31:am:= "~bits_of"
def S32:am:= "~default_value"
def eU:am:= "~wasmcore.store"
def S34:am:= "~is_block"
def S35:am:= "~matches"
def S36:am:= "~number_of"
def OL:am:= "~wasmcore.octets"
def S38:am:= "~octets_of"
def S39:am:= "~want_within"
def S40:am:= "~does_fit"
def S41:am:= "~do_fit"
def S42:am:= "~grown"
def OM:am:= "~Memory.__init__"
def S44:am:= "~size"
def ON:am:= "~Memory.size"
def S46:am:= "~grow"
def OO:am:= "~Memory.grow"
def S48:am:= "~want"
def OP:am:= "~Memory.want"
def OQ:am:= "~load"
def OR:am:= "~Memory.load"
def OS:am:= "~store"
def OT:am:= "~Memory.store"
def OU:am:= "~write"
def OV:am:= "~Memory.write"
def S56:am:= "~fill"
def OW:am:= "~Memory.fill"
def S58:am:= "~copy"
def OX:am:= "~Memory.copy"
def S60:am:= "~init"
def OY:am:= "~Memory.init"
def X9:am:= "~kind"
def Ya:am:= "~read"
def s9:am:= "~plain"
def wL:am:= "~Memory"
def OZ:am:= "~Table.__init__"
def O0:am:= "~Table.size"
def O1:am:= "~Table.want"
def DX:am:= "~get"
def O2:am:= "~Table.get"
def DY:am:= "~put"
def O3:am:= "~Table.put"
def O4:am:= "~Table.grow"
def O5:am:= "~Table.fill"
def O6:am:= "~Table.copy"
def O7:am:= "~Table.init"
def Yb:am:= "~table_kind"
def wM:am:= "~Table"
def O8:am:= "~Cell.__init__"
def Yc:am:= "~global_kind"
def wN:am:= "~Cell"
def O9:am:= "~WasmFunc.__init__"
def S83:am:= "~is_host"
def Pa:am:= "~WasmFunc.is_host"
def wO:am:= "~WasmFunc"
def Pb:am:= "~HostFunc.__init__"
def Pc:am:= "~HostFunc.is_host"
def Pd:am:= "~run"
def Pe:am:= "~HostFunc.run"
def S90:am:= "~HostFunc"
def Pf:am:= "~Instance.__init__"
def Pg:am:= "~drop_elem"
def Ph:am:= "~Instance.drop_elem"
def S94:am:= "~drop_data"
def S95:am:= "~Instance.drop_data"
def Yd:am:= "~addresses"
def Ye:am:= "~address"
def Yf:am:= "~index_of"
def Yg:am:= "~exported"
def wP:am:= "~Instance"
def gg:am:= "~wasmcore.core"
def aaa:am:= "~CoreInstance.__init__"
def wQ:am:= "~CoreInstance"
def aab:am:= "~CoreStore.__init__"
def wR:am:= "~CoreStore"
def aac:am:= "~Label.__init__"
def wS:am:= "~Label"
def aad:am:= "~Frame.__init__"
def z1:am:= "~is_done"
def aae:am:= "~Frame.is_done"
def wT:am:= "~Frame"
def aaf:am:= "~CoreRun.__init__"
def aag:am:= "~CoreRun.is_done"
def aah:am:= "~depth"
def aai:am:= "~CoreRun.depth"
def aaj:am:= "~forward"
def aak:am:= "~CoreRun.forward"
def aal:am:= "~step"
def aam:am:= "~CoreRun.step"
def aan:am:= "~do"
def aao:am:= "~CoreRun.do"
def aap:am:= "~number"
def aaq:am:= "~CoreRun.number"
def aar:am:= "~local"
def aas:am:= "~CoreRun.local"
def aat:am:= "~control"
def aau:am:= "~CoreRun.control"
def aav:am:= "~lower"
def aaw:am:= "~CoreRun.lower"
def aax:am:= "~go"
def aay:am:= "~CoreRun.go"
def aaz:am:= "~open_frame"
def aaA:am:= "~CoreRun.open_frame"
def DZ:am:= "~more"
def Yh:am:= "~begin"
def Yi:am:= "~choose"
def Yj:am:= "~branch"
def Yk:am:= "~branch_by_table"
def Yl:am:= "~give_back"
def D0:am:= "~enter"
def qr:am:= "~CoreRun"
def aaB:am:= "~CoreMachine.__init__"
def aaC:am:= "~count"
def aaD:am:= "~CoreMachine.count"
def aaE:am:= "~matched"
def aaF:am:= "~CoreMachine.matched"
def Ym:am:= "~left"
def Yn:am:= "~refuel"
def Yo:am:= "~begun"
def Yp:am:= "~call"
def Yq:am:= "~tried"
def Yr:am:= "~counted"
def wU:am:= "~CoreMachine"
def k9:am:= "~wasmcore.machine"
def aaG:am:= "~Run.more"
def aaH:am:= "~address_in"
def aaI:am:= "~Run.address_in"
def aaJ:am:= "~Run.enter"
def aaK:am:= "~hosted"
def aaL:am:= "~Run.hosted"
def aaM:am:= "~cell"
def aaN:am:= "~Run.cell"
def aaO:am:= "~element"
def aaP:am:= "~Run.element"
def aaQ:am:= "~table_of"
def aaR:am:= "~Run.table_of"
def aaS:am:= "~memory_of"
def aaT:am:= "~Run.memory_of"
def aaU:am:= "~memory"
def aaV:am:= "~Run.memory"
def aaW:am:= "~octets"
def aaX:am:= "~Run.octets"
def aaY:am:= "~reference"
def aaZ:am:= "~Run.reference"
def aa0:am:= "~elements"
def aa1:am:= "~Run.elements"
def aa2:am:= "~many_elements"
def aa3:am:= "~Run.many_elements"
def wV:am:= "~Run"
def gh:am:= "~law_nm0174_01"
def aa4:am:= "~Func.__init__"
def aa5:am:= "~wasmcore.modules"
def wW:am:= "~Func"
def z2:am:= "~_law_types"
def z3:am:= "~_law_widths"
def z4:am:= "~_law_number"
def z5:am:= "~_law_reference"
def z6:am:= "~_law_three"
def z7:am:= "~_law_octets"
def z8:am:= "~_law_elements"
def z9:am:= "~_law_deed"
def Aa:am:= "~_law_body"
def Ab:am:= "~_law_world"
def wX:am:= "~_law_host"
def Ac:am:= "~_law_store"
def Ad:am:= "~_law_accessed"
def Ae:am:= "~_law_grown"
def Af:am:= "~_law_moved"
def Ag:am:= "~_law_many"
def Ah:am:= "~_law_called"
def Ai:am:= "~_law_through"
def Aj:am:= "~_law_does"
def Ak:am:= "~_law_due"
def Am:am:= "~_law_told"
def wY:am:= "~law"
def Ys:am:= "~__package__"
def Yt:am:= "~__loader__"
def Yu:am:= "~__spec__"
def Yv:am:= "~__annotations__"
def Yw:am:= "~__builtins__"
def Yx:am:= "~__file__"
def Yy:am:= "~__cached__"
def Yz:am:= "~_wall"
def YA:am:= "~DIVIDE_BY_ZERO"
def YB:am:= "~integer divide by zero"
def YC:am:= "~OVERFLOW"
def YD:am:= "~integer overflow"
def YE:am:= "~I32_EQZ"
def YF:am:= "~I32_EQ"
def YG:am:= "~I64_EQZ"
def YH:am:= "~I64_EQ"
def YI:am:= "~I32_CLZ"
def YJ:am:= "~I32_ADD"
def YK:am:= "~I64_CLZ"
def YL:am:= "~I64_ADD"
def YM:am:= "~WRAP"
def YN:am:= "~EXTEND_S"
def YO:am:= "~EXTEND_U"
def YP:am:= "~I32_EXTEND8"
def YQ:am:= "~I64_EXTEND8"
def YR:am:= "~least_signed"
def YS:am:= "~eqz"
def YT:am:= "~clz"
def YU:am:= "~ctz"
def YV:am:= "~popcnt"
def YW:am:= "~sub"
def YX:am:= "~mul"
def YY:am:= "~toward_nought"
def YZ:am:= "~div_s"
def Y0:am:= "~div_u"
def Y1:am:= "~rem_s"
def Y2:am:= "~rem_u"
def Y3:am:= "~bits_and"
def Y4:am:= "~bits_or"
def Y5:am:= "~bits_xor"
def Y7:am:= "~shl"
def Y8:am:= "~shr_s"
def Y9:am:= "~shr_u"
def Za:am:= "~rotl"
def Zb:am:= "~rotr"
def Zc:am:= "~eq"
def Zd:am:= "~ne"
def Ze:am:= "~lt_s"
def Zf:am:= "~lt_u"
def Zg:am:= "~gt_s"
def Zh:am:= "~gt_u"
def Zi:am:= "~le_s"
def Zj:am:= "~le_u"
def Zk:am:= "~ge_s"
def Zl:am:= "~ge_u"
def Zm:am:= "~COUNTS"
def Zn:am:= "~COMPARES"
def Zo:am:= "~REST"
def Zp:am:= "~reckon1"
def Zq:am:= "~I32"
def Zr:am:= "~I64"
def Zs:am:= "~FUNCREF"
def Zt:am:= "~EXTERNREF"
def Zu:am:= "~EMPTY"
def Zv:am:= "~KIND_NAMES"
def Zw:am:= "~HEAP_NAMES"
def Zx:am:= "~block_kind"
def Zy:am:= "~BLOCK"
def Zz:am:= "~LOOP"
def ZA:am:= "~IF"
def abr:am:= "~ELSE"
def S277:am:= "~END"
def S278:am:= "~LOADS"
def S279:am:= "~STORES"
def S280:am:= "~REFUSED"
def S281:am:= "~OUTSIDE_MEMORY"
def S282:am:= "~out of bounds memory access"
def S283:am:= "~OUTSIDE_TABLE"
def S284:am:= "~out of bounds table access"
def S285:am:= "~of_sort"
def S286:am:= "~FUEL"
def S287:am:= "~fuel"
def S288:am:= "~CALL_STACK"
def S289:am:= "~call stack"
def S290:am:= "~UNREACHABLE"
def S291:am:= "~unreachable"
def S292:am:= "~UNDEFINED"
def S293:am:= "~undefined element"
def S294:am:= "~UNINITIALIZED"
def S295:am:= "~uninitialized element"
def S296:am:= "~OTHER_KIND"
def S297:am:= "~indirect call type mismatch"
def S298:am:= "~__name__"
def mainT(P:ay):26e2:=[de P jk 166 .L,
 de P Ys 167 .L,
 de P Yt 168 (.bJ "__main__.__loader__#opaque"),
 de P Yu 169 .L,
 1 Yv 170 6,
 1 Yw 171 4,
 236 Yx 173 S1 172,
 de P Yy 174 .L,
 1 Yz 193 21,
 1 i6 224 38,
 1 qn 240 51,
 1 qo 256 63,
 1 qp 272 75,
 236 YA 276 YB 275,
 236 YC 278 YD 277,
 81 YE 280 69 279,
 81 YF 282 70 281,
 81 YG 284 80 283,
 81 YH 286 81 285,
 81 YI 288 103 287,
 81 YJ 290 106 289,
 81 YK 292 121 291,
 81 YL 294 124 293,
 81 YM 296 167 295,
 81 YN 298 172 297,
 81 YO 300 173 299,
 81 YP 302 192 301,
 81 YQ 304 194 303,
 1 zW 312 84,
 1 zX 320 91,
 1 YR 327 98,
 1 zY 336 105,
 1 YS 344 112,
 1 YT 354 119,
 1 YU 364 126,
 1 YV 373 133,
 1 zZ 382 140,
 1 YW 391 147,
 1 YX 400 154,
 1 YY 409 161,
 1 YZ 420 168,
 1 Y0 429 175,
 1 Y1 440 182,
 1 Y2 449 189,
 1 Y3 458 196,
 1 Y4 467 203,
 1 Y5 476 210,
 1 Y7 485 217,
 1 Y8 494 224,
 1 Y9 503 231,
 1 Za 513 238,
 1 Zb 522 245,
 1 Zc 531 252,
 1 Zd 540 259,
 1 Ze 549 266,
 1 Zf 558 273,
 1 Zg 567 280,
 1 Zh 576 287,
 1 Zi 585 294,
 1 Zj 594 301,
 1 Zk 603 308,
 1 Zl 612 315,
 1 Zm 613 316,
 1 Zn 614 317,
 1 Zo 615 318,
 1 z0 625 325,
 1 S22 632 332,
 1 S23 639 339,
 1 Zp 649 346,
 1 S25 659 353,
 81 Zq 664 (-1) 663,
 81 Zr 667 (-2) 666,
 81 Zs 670 (-16) 669,
 81 Zt 673 (-17) 672,
 81 Zu 676 (-64) 675,
 1 Zv 685 354,
 1 Zw 690 355,
 1 wK 731 373,
 1 S30 738 384,
 1 S31 745 391,
 1 S32 752 398,
 1 Zx 760 405,
 81 Zy 764 2 763,
 81 Zz 766 3 765,
 81 ZA 768 4 767,
 81 abr 770 5 769,
 81 S277 772 11 771,
 1 S278 821 406,
 1 S279 843 419,
 1 S34 850 433,
 1 S35 864 440,
 1 S36 876 447,
 1 S38 882 452,
 81 S280 886 4294967295 885,
 236 S281 888 S282 887,
 236 S283 890 S284 889,
 1 S39 900 459,
 1 S40 908 466,
 1 S41 914 471,
 1 S42 925 478,
 1 S285 933 485,
 1 wL 1075 586,
 1 wM 1200 677,
 1 wN 1262 726,
 1 wO 1302 754,
 1 S90 1349 789,
 1 wP 1437 852,
 236 S286 1441 S287 1440,
 236 S288 1443 S289 1442,
 236 S290 1445 S291 1444,
 1 wQ 1476 873,
 1 wR 1504 894,
 1 wS 1546 922,
 1 wT 1602 957,
 1 qr 1818 1110,
 1 wU 1923 1188,
 236 S292 1927 S293 1926,
 236 S294 1929 S295 1928,
 236 S296 1931 S297 1930,
 1 wV 2092 1293,
 1 wW 2134 1319,
 1 z2 2142 1330,
 1 z3 2149 1337,
 1 z4 2156 1344,
 1 z5 2164 1351,
 1 z6 2172 1358,
 1 z7 2178 1363,
 1 z8 2192 1370,
 1 z9 2205 1377,
 1 Aa 2214 1384,
 1 Ab 2220 1389,
 1 wX 2230 1396,
 1 Ac 2236 1401,
 1 Ad 2242 1406,
 1 Ae 2254 1413,
 1 Af 2268 1420,
 1 Ag 2287 1427,
 1 Ah 2300 1434,
 1 Ai 2312 1441,
 1 Aj 2327 1448,
 1 Ak 2339 1455,
 1 Am 2347 1462,
 1 wY 2353 1467]
def fO(P:ay)(nm:af)(k n:I):aA:=(92 (de P S298 165 nm::(mainT P).fI k).gG n)
def tabL:2e5:=[3 1,1e4,.N 20,3 5,1e4,.N 27,3 10,1e4,.N 47,3 12,1e4,.N 59,3 14,1e4,.N 71,3 32,1e4,.N 83,3 34,1e4,.N 90,3 36,1e4,.N 97,3 38,1e4,.N 104,3 40,1e4,.N 111,3 42,1e4,.N 118,3 53,1e4,.N 125,3 64,1e4,.N 132,3 70,1e4,.N 139,3 72,1e4,.N 146,3 74,1e4,.N 153,3 76,1e4,.N 160,3 79,1e4,.N 167,3 86,1e4,.N 174,3 90,1e4,.N 181,3 95,1e4,.N 188,3 99,1e4,.N 195,3 101,1e4,.N 202,3 103,1e4,.N 209,3 105,1e4,.N 216,3 107,1e4,.N 223,3 109,1e4,.N 230,3 111,1e4,.N 237,3 114,1e4,.N 244,3 116,1e4,.N 251,3 118,1e4,.N 258,3 120,1e4,.N 265,3 122,1e4,.N 272,3 124,1e4,.N 279,3 126,1e4,.N 286,3 128,1e4,.N 293,3 130,1e4,.N 300,3 132,1e4,.N 307,3 134,1e4,.N 314,3 139,1e4,.N 324,3 145,1e4,.N 331,3 151,1e4,.N 338,3 155,1e4,.N 345,3 169,1e4,.N 352,3 185,1e4,.N 361,3 193,1e4,.N 383,3 195,1e4,.N 390,3 197,1e4,.N 397,3 199,1e4,.N 404,3 213,1e4,.N 432,3 215,1e4,.N 439,3 230,1e4,.N 446,3 235,1e4,.N 451,3 241,1e4,.N 458,3 244,1e4,.N 465,3 250,1e4,.N 470,3 254,1e4,.N 477,3 259,1e4,.N 484,3 263,1e4,.N 491,3 322,1e4,.N 596,3 373,1e4,.N 687,3 395,1e4,.N 736,3 404,1e4,.N 764,3 418,1e4,.N 799,3 452,1e4,.N 862,3 457,1e4,.N 883,3 461,1e4,.N 904,3 471,1e4,.N 932,3 490,1e4,.N 967,3 648,1e4,.N 1120,3 696,1e4,.N 1198,3 830,1e4,.N 1301,3 840,1e4,.N 1329,3 842,1e4,.N 1336,3 848,1e4,.N 1343,3 850,1e4,.N 1350,3 854,1e4,.N 1357,3 856,1e4,.N 1362,3 874,1e4,.N 1369,3 894,1e4,.N 1376,3 914,1e4,.N 1383,3 921,1e4,.N 1388,3 928,1e4,.N 1395,3 930,1e4,.N 1400,3 947,1e4,.N 1405,3 964,1e4,.N 1412,3 970,1e4,.N 1419,3 976,1e4,.N 1426,3 995,1e4,.N 1433,3 1006,1e4,.N 1440,3 1015,1e4,.N 1447,3 1052,1e4,.N 1454,3 1064,1e4,.N 1461,3 1072,1e4,.N 1466]
def gU(k:I):aA:=⟨.L,L,.cp (tabL.fI k).gG,#[]⟩
def gV(s:ay):aA:=(288 #[.ag S0 182,.ag S0 183,121 184,3 1,1e4,1e4,1e4,1e4,.N 11,33e5,37e4,.N 12,.L,.L,.L,.L,3 185,3 1,121 186])
def o2(P:ay):aA:=⟨.L,L,.bw #[de P S2 221 (3 38),de P S3 222 (3 1)] 2,#[]⟩
def D1(s:ay):aA:=(cb S5 S6 208 213 7 2 29)
def D2(s:ay):aA:=(156 2 0 S6 S4 194 34)
def uN(P:ay):aA:=(92 #[136 203 S4 194,135 207 5 206,1 S5 215 35,1 S9 217 36,1 lK 219 39,de P jk 220 .L] 3)
def o38(s:ay):aA:=(98 L i6 [22e7] [32e6,22e7,22e5,6e9] 37 i6 [] #[47 22,L,14 i6 196,14 i6 204,G 41e3,12e0])
def o38v1(s:ay):aA:=(98 L i6 [22e7] [32e6,22e7,22e5,6e9] 37 i6 [.N 51] #[47 22,L,14 i6 196,14 i6 204,G 41e3,12e0])
def D3(P:ay):aA:=(92 #[136 232 S4 194,135 236 10 235,1 S9 237 49,de P jk 238 .L] 2)
def D4(s:ay):aA:=(98 L qn [32e6] [.N 51,32e6,22e7,22e5,6e9] 50 qn [] #[47 42,L,14 qn 225,14 qn 233,G 41e3,12e0])
def o38v2(s:ay):aA:=(98 L i6 [22e7] [32e6,22e7,22e5,6e9] 37 i6 [.N 51,.N 63] #[47 22,L,14 i6 196,14 i6 204,G 41e3,12e0])
def D5(P:ay):aA:=(92 #[136 248 S4 194,135 252 12 251,1 S9 253 61,de P jk 254 .L] 2)
def D6(s:ay):aA:=(98 L qo [32e6] [.N 63,32e6,22e7,22e5,6e9] 62 qo [] #[47 54,L,14 qo 241,14 qo 249,G 41e3,12e0])
def D7(s:ay):aA:=(98 L i6 [22e7] [32e6,22e7,22e5,6e9] 37 i6 [.N 51,.N 63,.N 75] #[47 22,L,14 i6 196,14 i6 204,G 41e3,12e0])
def D8(P:ay):aA:=(92 #[136 264 S4 194,135 268 14 267,1 S9 269 73,de P jk 270 .L] 2)
def D9(s:ay):aA:=(98 L qp [32e6] [.N 75,32e6,22e7,22e5,6e9] 74 qp [] #[47 66,L,14 qp 257,14 qp 265,G 41e3,12e0])
def Ea(s:ay):aA:=(cb zW zW 305 310 32 2 78)
def Eb(s:ay):aA:=(120 22 zW nv 273 83)
def Ec(s:ay):aA:=(cb zX zX 313 318 34 2 85)
def Ed(s:ay):aA:=(120 23 zX nv 273 90)
def Ee(s:ay):aA:=(cb zY zY 328 334 38 3 99)
def Ef(s:ay):aA:=(120 25 zY nv 273 104)
def Eg(s:ay):aA:=(cb zZ zZ 374 380 70 3 134)
def Eh(s:ay):aA:=(120 30 zZ nv 273 139)
def Ei(s:ay):aA:=(86 #[.N 119,.N 126,.N 133])
def Ej(s:ay):aA:=(86 #[.N 140,.N 147,.N 154,.N 168,.N 175,.N 182,.N 189,.N 196,.N 203,.N 210,.N 217,.N 224,.N 231,.N 238,.N 245])
def Ek(s:ay):aA:=(cb z0 z0 616 623 139 4 319)
def El(s:ay):aA:=(120 59 z0 nv 273 324)
def Em(s:ay):aA:=(cb S22 S22 626 630 145 1 326)
def En(s:ay):aA:=(120 60 S22 nv 273 331)
def Eo(s:ay):aA:=(cb S23 S23 633 637 151 1 333)
def Ep(s:ay):aA:=(120 61 S23 nv 273 338)
def Er(s:ay):aA:=(cb S25 S25 650 657 169 3 347)
def Et(s:ay):aA:=(120 63 S25 nv 273 352)
def Eu(s:ay):aA:=(86 #[.y 65536 703,.y 65536 704,.y 4294967295 705,.y 200 706,.L])
def Ev(s:ay):aA:=(cb S5 OK 707 716 187 6 364)
def Ew(s:ay):aA:=(b4 (dk 72 0) OK (.N 363) rA 660 369)
def Ex(P:ay):aA:=(92 #[136 698 rA 660,135 702 185 701,1 S5 718 370,1 S9 724 371,1 mn 726 374,1 lK 728 375,de P jk 729 .L] 4)
def Ey(s:ay):aA:=(98 L wK [6e9] [.N 373,6e9] 372 wK [] #[L,L,14 wK 691,14 wK 699,23e0,12e0])
def Ez(s:ay):aA:=(cb S30 S30 732 736 193 1 378)
def EA(s:ay):aA:=(120 73 S30 rA 660 383)
def EB(s:ay):aA:=(cb S31 S31 739 743 195 1 385)
def EC(s:ay):aA:=(120 74 S31 rA 660 390)
def ED(s:ay):aA:=(cb S32 S32 746 750 197 1 392)
def EF(s:ay):aA:=(120 75 S32 rA 660 397)
def EG(s:ay):aA:=(92 #[⟨40,.y 40 773,.N 407⟩,⟨41,.y 41 776,.N 408⟩,⟨44,.y 44 779,.N 409⟩,⟨45,.y 45 782,.N 410⟩,⟨46,.y 46 785,.N 411⟩,⟨47,.y 47 788,.N 412⟩,⟨48,.y 48 791,.N 413⟩,⟨49,.y 49 794,.N 414⟩,⟨50,.y 50 797,.N 415⟩,⟨51,.y 51 800,.N 416⟩,⟨52,.y 52 803,.N 417⟩,⟨53,.y 53 806,.N 418⟩] 12)
def EH(s:ay):aA:=(86 #[.y (-1) 663,.y 4 774,.y 0 775])
def EI(s:ay):aA:=(86 #[.y (-2) 666,.y 8 777,.y 0 778])
def EJ(s:ay):aA:=(86 #[.y (-1) 663,.y 1 780,.y 1 781])
def EK(s:ay):aA:=(86 #[.y (-1) 663,.y 1 783,.y 0 784])
def EL(s:ay):aA:=(86 #[.y (-1) 663,.y 2 786,.y 1 787])
def EM(s:ay):aA:=(86 #[.y (-1) 663,.y 2 789,.y 0 790])
def EN(s:ay):aA:=(86 #[.y (-2) 666,.y 1 792,.y 1 793])
def EO(s:ay):aA:=(86 #[.y (-2) 666,.y 1 795,.y 0 796])
def EP(s:ay):aA:=(86 #[.y (-2) 666,.y 2 798,.y 1 799])
def EQ(s:ay):aA:=(86 #[.y (-2) 666,.y 2 801,.y 0 802])
def ER(s:ay):aA:=(86 #[.y (-2) 666,.y 4 804,.y 1 805])
def ES(s:ay):aA:=(86 #[.y (-2) 666,.y 4 807,.y 0 808])
def ET(s:ay):aA:=(92 #[⟨54,.y 54 822,.N 420⟩,⟨55,.y 55 824,.N 421⟩,⟨58,.y 58 826,.N 422⟩,⟨59,.y 59 828,.N 423⟩,⟨60,.y 60 830,.N 424⟩,⟨61,.y 61 832,.N 425⟩,⟨62,.y 62 834,.N 426⟩] 7)
def EU(s:ay):aA:=(86 #[.y (-1) 663,.y 4 823])
def EV(s:ay):aA:=(86 #[.y (-2) 666,.y 8 825])
def EW(s:ay):aA:=(86 #[.y (-1) 663,.y 1 827])
def EX(s:ay):aA:=(86 #[.y (-1) 663,.y 2 829])
def EY(s:ay):aA:=(86 #[.y (-2) 666,.y 1 831])
def EZ(s:ay):aA:=(86 #[.y (-2) 666,.y 2 833])
def E0(s:ay):aA:=(86 #[.y (-2) 666,.y 4 835])
def E1(s:ay):aA:=(cb S34 S34 844 848 213 1 427)
def E3(s:ay):aA:=(120 85 S34 wJ 761 432)
def E4(s:ay):aA:=(cb S35 S35 851 862 215 1 434)
def E5(s:ay):aA:=(120 86 S35 wJ 761 439)
def E6(s:ay):aA:=(cb S36 S36 867 874 230 1 441)
def E7(s:ay):aA:=(120 88 S36 OL 865 446)
def E8(s:ay):aA:=(288 #[.ag S38 877,.ag S38 878,121 879,3 235,3 2,1e4,1e4,3 3,.N 448,22e6,37e4,.N 449,.L,.L,.L,.N 450,3 880,3 235,121 881])
def E9(s:ay):aA:=(120 89 S38 OL 865 451)
def Fa(s:ay):aA:=(cb S39 S39 891 898 241 4 453)
def Fb(s:ay):aA:=(120 94 S39 eU 883 458)
def Fc(s:ay):aA:=(cb S40 S40 901 906 244 2 460)
def Fd(s:ay):aA:=(120 95 S40 eU 883 465)
def Fe(s:ay):aA:=(288 #[.ag S41 909,.ag S41 910,121 911,3 250,3 2,1e4,1e4,3 3,.N 467,22e6,37e4,.N 468,.L,.L,.L,.N 469,3 912,3 250,121 913])
def Ff(s:ay):aA:=(120 96 S41 eU 883 470)
def Fg(s:ay):aA:=(cb S42 S42 915 923 254 4 472)
def Fh(s:ay):aA:=(120 97 S42 eU 883 477)
def Fi(s:ay):aA:=(cb S5 OM 946 953 265 4 493)
def Fj(s:ay):aA:=(67 99 0 OM 498)
def Fk(s:ay):aA:=(cb S44 ON 956 960 273 1 500)
def Fl(s:ay):aA:=(67 99 1 ON 505)
def Fm(s:ay):aA:=(cb S46 OO 970 976 279 2 514)
def Fo(s:ay):aA:=(67 99 3 OO 519)
def Fp(s:ay):aA:=(cb S48 OP 979 985 286 3 521)
def Fq(s:ay):aA:=(67 99 4 OP 526)
def Fr(s:ay):aA:=(cb OQ OR 988 994 289 3 528)
def Fs(s:ay):aA:=(67 99 5 OR 533)
def Ft(s:ay):aA:=(cb OS OT 997 1004 293 4 535)
def Fu(s:ay):aA:=(67 99 6 OT 540)
def Fv(s:ay):aA:=(cb OU OV 1016 1022 301 3 549)
def Fw(s:ay):aA:=(67 99 8 OV 554)
def Fy(s:ay):aA:=(cb S56 OW 1025 1032 305 4 556)
def Fz(s:ay):aA:=(67 99 9 OW 561)
def FE(s:ay):aA:=(cb S58 OX 1035 1042 309 4 563)
def FF(s:ay):aA:=(67 99 10 OX 568)
def FG(s:ay):aA:=(cb S60 OY 1045 1054 314 5 570)
def FI(s:ay):aA:=(67 99 11 OY 575)
def FJ(P:ay):aA:=(92 #[136 941 eU 883,135 945 263 944,1 S5 955 499,1 S44 962 506,1 X9 969 513,1 S46 978 520,1 S48 987 527,1 OQ 996 534,1 OS 1006 541,1 Ya 1015 548,1 OU 1024 555,1 S56 1034 562,1 S58 1044 569,1 S60 1056 576,1 s9 1063 583,1 S9 1068 584,1 mn 1070 587,1 lK 1072 588,de P jk 1073 .L] 4)
def FK(s:ay):aA:=(98 L wL [6e9] [.N 586,6e9] 585 wL [] #[L,L,14 wL 934,14 wL 942,23e0,12e0])
def FL(s:ay):aA:=(cb S5 OZ 1088 1096 324 5 598)
def FM(s:ay):aA:=(67 100 0 OZ 603)
def FN(s:ay):aA:=(cb S44 O0 1099 1103 332 1 605)
def FO(s:ay):aA:=(67 100 1 O0 610)
def FP(s:ay):aA:=(cb S48 O1 1113 1119 338 3 619)
def FQ(s:ay):aA:=(67 100 3 O1 624)
def FR(s:ay):aA:=(cb DX O2 1122 1127 341 2 626)
def FS(s:ay):aA:=(67 100 4 O2 631)
def FT(s:ay):aA:=(cb DY O3 1130 1136 345 3 633)
def FU(s:ay):aA:=(67 100 5 O3 638)
def FV(s:ay):aA:=(cb S46 O4 1139 1146 349 3 640)
def FW(s:ay):aA:=(67 100 6 O4 645)
def FX(s:ay):aA:=(cb S56 O5 1149 1156 356 4 647)
def FY(s:ay):aA:=(67 100 7 O5 652)
def FZ(s:ay):aA:=(cb S58 O6 1159 1167 360 5 654)
def Ga(s:ay):aA:=(67 100 8 O6 659)
def Gb(s:ay):aA:=(cb S60 O7 1170 1179 365 5 661)
def Gc(s:ay):aA:=(67 100 9 O7 666)
def Gd(P:ay):aA:=(92 #[136 1083 eU 883,135 1087 322 1086,1 S5 1098 604,1 S44 1105 611,1 Yb 1112 618,1 S48 1121 625,1 DX 1129 632,1 DY 1138 639,1 S46 1148 646,1 S56 1158 653,1 S58 1169 660,1 S60 1181 667,1 s9 1188 674,1 S9 1193 675,1 mn 1195 678,1 lK 1197 679,de P jk 1198 .L] 4)
def Ge(s:ay):aA:=(98 L wM [6e9] [.N 677,6e9] 676 wM [] #[L,L,14 wM 1076,14 wM 1084,23e0,12e0])
def Gf(s:ay):aA:=(cb S5 O8 1213 1220 375 4 689)
def Gg(s:ay):aA:=(67 101 0 O8 694)
def Gh(P:ay):aA:=(92 #[136 1208 eU 883,135 1212 373 1211,1 S5 1222 695,1 Yc 1229 702,1 DX 1236 709,1 DY 1244 716,1 s9 1251 723,1 S9 1255 724,1 mn 1257 727,1 lK 1259 728,de P jk 1260 .L] 4)
def Gi(s:ay):aA:=(98 L wN [6e9] [.N 726,6e9] 725 wN [] #[L,L,14 wN 1201,14 wN 1209,23e0,12e0])
def Gj(s:ay):aA:=(cb S5 O9 1275 1282 397 4 738)
def Gk(s:ay):aA:=(67 102 0 O9 743)
def Gl(s:ay):aA:=(cb S83 Pa 1285 1289 402 1 745)
def Gm(s:ay):aA:=(67 102 1 Pa 750)
def Gn(P:ay):aA:=(92 #[136 1270 eU 883,135 1274 395 1273,1 S5 1284 744,1 S83 1291 751,1 S9 1295 752,1 mn 1297 755,1 lK 1299 756,de P jk 1300 .L] 4)
def Go(s:ay):aA:=(98 L wO [6e9] [.N 754,6e9] 753 wO [] #[L,L,14 wO 1263,14 wO 1271,23e0,12e0])
def Gp(s:ay):aA:=(cb S5 Pb 1315 1321 406 3 766)
def Gq(s:ay):aA:=(67 103 0 Pb 771)
def Gr(s:ay):aA:=(cb S83 Pc 1324 1328 410 1 773)
def Gs(s:ay):aA:=(67 103 1 Pc 778)
def Gu(s:ay):aA:=(cb Pd Pe 1331 1337 413 2 780)
def Gv(s:ay):aA:=(67 103 2 Pe 785)
def Gw(P:ay):aA:=(92 #[136 1310 eU 883,135 1314 404 1313,1 S5 1323 772,1 S83 1330 779,1 Pd 1339 786,1 S9 1342 787,1 mn 1344 790,1 lK 1346 791,de P jk 1347 .L] 4)
def Gx(s:ay):aA:=(98 L S90 [6e9] [.N 789,6e9] 788 S90 [] #[L,L,14 S90 1303,14 S90 1311,23e0,12e0])
def Gy(s:ay):aA:=(cb S5 Pf 1362 1367 420 2 801)
def Gz(s:ay):aA:=(67 104 0 Pf 806)
def GA(s:ay):aA:=(cb Pg Ph 1405 1410 443 2 836)
def GB(s:ay):aA:=(67 104 5 Ph 841)
def GC(s:ay):aA:=(cb S94 S95 1413 1418 446 2 843)
def GD(s:ay):aA:=(67 104 6 S95 848)
def GE(P:ay):aA:=(92 #[136 1357 eU 883,135 1361 418 1360,1 S5 1369 807,1 Yd 1377 814,1 Ye 1386 821,1 Yf 1395 828,1 Yg 1404 835,1 Pg 1412 842,1 S94 1420 849,1 S9 1430 850,1 mn 1432 853,1 lK 1434 854,de P jk 1435 .L] 4)
def GF(s:ay):aA:=(98 L wP [6e9] [.N 852,6e9] 851 wP [] #[L,L,14 wP 1350,14 wP 1358,23e0,12e0])
def GG(s:ay):aA:=(cb S5 aaa 1458 1464 454 3 864)
def GH(s:ay):aA:=(144 109 0 aaa 869)
def GI(P:ay):aA:=(92 #[136 1453 gg 1438,135 1457 452 1456,1 S5 1466 870,1 S9 1469 871,1 mn 1471 874,1 lK 1473 875,de P jk 1474 .L] 4)
def GJ(s:ay):aA:=(98 L wQ [6e9] [.N 873,6e9] 872 wQ [] #[L,L,14 wQ 1446,14 wQ 1454,23e0,12e0])
def GK(s:ay):aA:=(cb S5 aab 1489 1493 459 1 885)
def GL(s:ay):aA:=(144 110 0 aab 890)
def GM(P:ay):aA:=(92 #[136 1484 gg 1438,135 1488 457 1487,1 S5 1495 891,1 S9 1497 892,1 mn 1499 895,1 lK 1501 896,de P jk 1502 .L] 4)
def GN(s:ay):aA:=(98 L wR [6e9] [.N 894,6e9] 893 wR [] #[L,L,14 wR 1477,14 wR 1485,23e0,12e0])
def GO(s:ay):aA:=(cb S5 aac 1517 1525 463 5 906)
def GP(s:ay):aA:=(144 111 0 aac 911)
def GQ(P:ay):aA:=(92 #[136 1512 gg 1438,135 1516 461 1515,1 S5 1527 912,1 s9 1534 919,1 S9 1539 920,1 mn 1541 923,1 lK 1543 924,de P jk 1544 .L] 4)
def GR(s:ay):aA:=(98 L wS [6e9] [.N 922,6e9] 921 wS [] #[L,L,14 wS 1505,14 wS 1513,23e0,12e0])
def GS(s:ay):aA:=(cb S5 aad 1559 1568 473 6 934)
def GT(s:ay):aA:=(144 112 0 aad 939)
def GU(s:ay):aA:=(cb z1 aae 1571 1575 485 1 941)
def GV(s:ay):aA:=(144 112 1 aae 946)
def GW(P:ay):aA:=(92 #[136 1554 gg 1438,135 1558 471 1557,1 S5 1570 940,1 z1 1577 947,1 s9 1584 954,1 S9 1595 955,1 mn 1597 958,1 lK 1599 959,de P jk 1600 .L] 4)
def GX(s:ay):aA:=(98 L wT [6e9] [.N 957,6e9] 956 wT [] #[L,L,14 wT 1547,14 wT 1555,23e0,12e0])
def GY(s:ay):aA:=(cb S5 aaf 1615 1622 492 4 969)
def GZ(s:ay):aA:=(144 113 0 aaf 974)
def G0(s:ay):aA:=(cb z1 aag 1625 1629 501 1 976)
def G1(s:ay):aA:=(144 113 1 aag 981)
def G2(s:ay):aA:=(cb aah aai 1632 1636 504 1 983)
def G3(s:ay):aA:=(144 113 2 aai 988)
def G5(s:ay):aA:=(86 #[.L])
def G6(s:ay):aA:=(cb aaj aak 1646 1652 510 2 998)
def G7(s:ay):aA:=(b4 (dk 113 4) aak (.N 997) gg 1438 1003)
def G8(s:ay):aA:=(cb aal aam 1655 1662 517 1 1005)
def G9(s:ay):aA:=(144 113 5 aam 1010)
def Ha(s:ay):aA:=(cb aan aao 1665 1673 531 4 1012)
def Hb(s:ay):aA:=(144 113 6 aao 1017)
def Hc(s:ay):aA:=(cb aap aaq 1685 1691 549 2 1026)
def Hd(s:ay):aA:=(144 113 8 aaq 1031)
def He(s:ay):aA:=(cb aar aas 1694 1704 556 3 1033)
def Hf(s:ay):aA:=(144 113 9 aas 1038)
def Hg(s:ay):aA:=(cb aat aau 1707 1715 572 4 1040)
def Hh(s:ay):aA:=(144 113 10 aau 1045)
def Hi(s:ay):aA:=(cb aav aaw 1763 1770 621 3 1075)
def Hj(s:ay):aA:=(144 113 15 aaw 1080)
def Hk(s:ay):aA:=(cb aax aay 1781 1788 630 4 1089)
def Hl(s:ay):aA:=(144 113 17 aay 1094)
def Hm(s:ay):aA:=(288 #[.ag aaz 1799,.ag aaA 1800,121 1801,3 639,3 2,1e4,1e4,3 3,.N 1103,22e6,37e4,.N 1104,.L,.L,.L,.N 1105,3 1802,3 639,121 1803])
def Hn(s:ay):aA:=(144 113 19 aaA 1106)
def An(P:ay):aA:=(92 #[136 1610 gg 1438,135 1614 490 1613,1 S5 1624 975,1 z1 1631 982,1 aah 1638 989,1 s9 1645 996,1 aaj 1654 1004,1 aal 1664 1011,1 aan 1675 1018,1 DZ 1684 1025,1 aap 1693 1032,1 aar 1706 1039,1 aat 1717 1046,1 Yh 1730 1053,1 Yi 1741 1060,1 Yj 1752 1067,1 Yk 1762 1074,1 aav 1772 1081,1 Yl 1780 1088,1 aax 1790 1095,1 D0 1798 1102,1 aaz 1804 1107,1 S9 1811 1108,1 mn 1813 1111,1 lK 1815 1112,de P jk 1816 .L] 4)
def o1110(s:ay):aA:=(98 L qr [6e9] [.N 1110,6e9] 1109 qr [] #[L,L,14 qr 1603,14 qr 1611,23e0,12e0])
def Ho(s:ay):aA:=(86 #[.L,.y 200 1831])
def Hp(s:ay):aA:=(cb S5 aaB 1832 1839 650 4 1123)
def Hq(s:ay):aA:=(b4 (dk 114 0) aaB (.N 1122) gg 1438 1128)
def Hr(s:ay):aA:=(cb aaC aaD 1842 1846 659 1 1130)
def Hs(s:ay):aA:=(144 114 1 aaD 1135)
def Ht(s:ay):aA:=(cb aaE aaF 1864 1869 670 2 1151)
def Hu(s:ay):aA:=(144 114 4 aaF 1156)
def Hv(P:ay):aA:=(92 #[136 1826 gg 1438,135 1830 648 1829,1 S5 1841 1129,1 aaC 1848 1136,1 Ym 1855 1143,1 Yn 1863 1150,1 aaE 1871 1157,1 Yo 1880 1164,1 Yp 1890 1171,1 Yq 1899 1178,1 Yr 1908 1185,1 S9 1916 1186,1 mn 1918 1189,1 lK 1920 1190,de P jk 1921 .L] 4)
def Hw(s:ay):aA:=(98 L wU [6e9] [.N 1188,6e9] 1187 wU [] #[L,L,14 wU 1819,14 wU 1827,23e0,12e0])
def Hx(s:ay):aA:=(98 L qr [6e9] [.N 1110,6e9] 1109 qr [.N 1293] #[L,L,14 qr 1603,14 qr 1611,23e0,12e0])
def Hy(s:ay):aA:=(cb DZ aaG 1944 1951 698 3 1200)
def Hz(s:ay):aA:=(156 119 0 aaG k9 1924 1205)
def HA(s:ay):aA:=(cb aaH aaI 1954 1962 715 3 1207)
def HB(s:ay):aA:=(156 119 1 aaI k9 1924 1212)
def HC(s:ay):aA:=(cb D0 aaJ 1965 1973 726 2 1214)
def HD(s:ay):aA:=(156 119 2 aaJ k9 1924 1219)
def HE(s:ay):aA:=(cb aaK aaL 1976 1983 736 3 1221)
def HF(s:ay):aA:=(156 119 3 aaL k9 1924 1226)
def HG(s:ay):aA:=(cb aaM aaN 1986 1993 744 3 1228)
def HH(s:ay):aA:=(156 119 4 aaN k9 1924 1233)
def HI(s:ay):aA:=(cb aaO aaP 1996 2004 751 3 1235)
def HJ(s:ay):aA:=(156 119 5 aaP k9 1924 1240)
def HK(s:ay):aA:=(cb aaQ aaR 2007 2013 759 3 1242)
def HL(s:ay):aA:=(156 119 6 aaR k9 1924 1247)
def HM(s:ay):aA:=(cb aaS aaT 2016 2021 762 2 1249)
def HN(s:ay):aA:=(156 119 7 aaT k9 1924 1254)
def HO(s:ay):aA:=(cb aaU aaV 2024 2036 765 3 1256)
def HP(s:ay):aA:=(156 119 8 aaV k9 1924 1261)
def HQ(s:ay):aA:=(cb aaW aaX 2039 2050 780 3 1263)
def HR(s:ay):aA:=(156 119 9 aaX k9 1924 1268)
def HS(s:ay):aA:=(cb aaY aaZ 2053 2060 796 3 1270)
def HT(s:ay):aA:=(156 119 10 aaZ k9 1924 1275)
def HU(s:ay):aA:=(cb aa0 aa1 2063 2071 805 3 1277)
def HV(s:ay):aA:=(156 119 11 aa1 k9 1924 1282)
def HW(s:ay):aA:=(cb aa2 aa3 2074 2085 817 3 1284)
def HX(s:ay):aA:=(156 119 12 aa3 k9 1924 1289)
def HY(P:ay):aA:=(92 #[136 1939 k9 1924,135 1943 696 1942,1 DZ 1953 1206,1 aaH 1964 1213,1 D0 1975 1220,1 aaK 1985 1227,1 aaM 1995 1234,1 aaO 2006 1241,1 aaQ 2015 1248,1 aaS 2023 1255,1 aaU 2038 1262,1 aaW 2052 1269,1 aaY 2062 1276,1 aa0 2073 1283,1 aa2 2087 1290,1 S9 2089 1291,de P jk 2090 .L] 2)
def HZ(s:ay):aA:=(98 L wV [.N 1110] [.N 1293,.N 1110,6e9] 1292 wV [] #[47 1193,L,14 wV 1932,14 wV 1940,23e0,12e0])
def H0(s:ay):aA:=(cb S5 aa4 2107 2114 832 4 1303)
def H1(s:ay):aA:=(156 121 0 aa4 aa5 2093 1308)
def H2(P:ay):aA:=(92 #[136 2102 aa5 2093,135 2106 830 2105,1 S5 2116 1309,1 s9 2123 1316,1 S9 2127 1317,1 mn 2129 1320,1 lK 2131 1321,de P jk 2132 .L] 4)
def H4(s:ay):aA:=(98 L wW [6e9] [.N 1319,6e9] 1318 wW [] #[L,L,14 wW 2095,14 wW 2103,23e0,12e0])
def H5(s:ay):aA:=(cb z2 z2 2137 2140 840 0 1324)
def H6(s:ay):aA:=(103 123 z2 1329)
def H7(s:ay):aA:=(cb z3 z3 2143 2147 842 0 1331)
def H8(s:ay):aA:=(103 124 z3 1336)
def H9(s:ay):aA:=(cb z4 z4 2150 2154 848 1 1338)
def Ia(s:ay):aA:=(103 125 z4 1343)
def Ib(s:ay):aA:=(cb z5 z5 2157 2162 850 2 1345)
def Ic(s:ay):aA:=(103 126 z5 1350)
def Id(s:ay):aA:=(cb z6 z6 2165 2170 854 2 1352)
def Ie(s:ay):aA:=(103 127 z6 1357)
def Ig(s:ay):aA:=(288 #[.ag z7 2173,.ag z7 2174,121 2175,3 856,3 2,1e4,1e4,3 3,.N 1359,22e6,37e4,.N 1360,.L,.L,.L,.N 1361,3 2176,3 856,121 2177])
def Ii(s:ay):aA:=(103 128 z7 1362)
def Ij(s:ay):aA:=(cb z8 z8 2179 2190 874 2 1364)
def Ik(s:ay):aA:=(103 129 z8 1369)
def Il(s:ay):aA:=(cb z9 z9 2193 2203 894 1 1371)
def Im(s:ay):aA:=(103 130 z9 1376)
def Io(s:ay):aA:=(cb Aa Aa 2206 2212 914 1 1378)
def Ip(s:ay):aA:=(103 131 Aa 1383)
def Iq(s:ay):aA:=(288 #[.ag Ab 2215,.ag Ab 2216,121 2217,3 921,3 1,1e4,1e4,3 3,.N 1385,22e6,37e4,.N 1386,.L,.L,.L,.N 1387,3 2218,3 921,121 2219])
def Ir(s:ay):aA:=(103 132 Ab 1388)
def pf(s:ay):aA:=⟨.L,L,.cp #[],#[]⟩
def ta(s:ay):aA:=(cb wX wX 2221 2228 928 2 1390)
def Iu(s:ay):aA:=(103 133 wX 1395)
def Iv(s:ay):aA:=(288 #[.ag Ac 2231,.ag Ac 2232,121 2233,3 930,3 4,1e4,1e4,3 3,.N 1397,22e6,37e4,.N 1398,.L,.L,.L,.N 1399,3 2234,3 930,121 2235])
def Iw(s:ay):aA:=(103 134 Ac 1400)
def Ix(s:ay):aA:=(288 #[.ag Ad 2237,.ag Ad 2238,121 2239,3 947,3 3,1e4,1e4,3 3,.N 1402,22e6,37e4,.N 1403,.L,.L,.L,.N 1404,3 2240,3 947,121 2241])
def Iy(s:ay):aA:=(103 135 Ad 1405)
def Iz(s:ay):aA:=(cb Ae Ae 2243 2252 964 5 1407)
def IA(s:ay):aA:=(103 136 Ae 1412)
def IB(s:ay):aA:=(cb Af Af 2255 2266 970 6 1414)
def IC(s:ay):aA:=(103 137 Af 1419)
def ID(s:ay):aA:=(cb Ag Ag 2269 2285 976 3 1421)
def IE(s:ay):aA:=(103 138 Ag 1426)
def IF(s:ay):aA:=(cb Ah Ah 2288 2298 995 4 1428)
def IG(s:ay):aA:=(103 139 Ah 1433)
def II(s:ay):aA:=(cb Ai Ai 2301 2310 1006 4 1435)
def IJ(s:ay):aA:=(103 140 Ai 1440)
def IK(s:ay):aA:=(cb Aj Aj 2313 2325 1015 4 1442)
def IL(s:ay):aA:=(103 141 Aj 1447)
def IM(s:ay):aA:=(cb Ak Ak 2328 2337 1052 3 1449)
def IO(s:ay):aA:=(103 142 Ak 1454)
def IP(s:ay):aA:=(cb Am Am 2340 2345 1064 1 1456)
def IQ(s:ay):aA:=(103 143 Am 1461)
def IR(s:ay):aA:=(288 #[.ag wY 2348,.ag wY 2349,121 2350,3 1072,3 1,1e4,1e4,3 3,.N 1463,22e6,37e4,.N 1464,.L,.L,.L,.N 1465,3 2351,3 1072,121 2352])
def uO(s:ay):aA:=(103 144 wY 1466)
noncomputable def IS(P:ay):dR:=[(12,gU 0),(13,11e2)]
noncomputable def tc(P:ay):dR:=[(2,15e8),(0,13e0),(4,9e7),(3,34 S4 194 10 11),(12,gU 6),(13,11e2),(34,D1 P),(35,D2 P),(37,uN P),(38,o38 P)]
def ow:fJ:=(53 0 3 267 15 187 0 0 0 [2,0,4,3,12,13] 42 225 5 9 22)
noncomputable def mo(P:ay):dR:=[(37,uN P),(2,15e8),(4,9e7),(12,gU 9),(13,11e2),(38,o38v1 P),(3,34 S4 194 11 12),(0,13e0),(50,D3 P),(51,D4 P)]
def IT:fJ:=(53 3 1 214 42 225 5 9 22 [37,2,4,12,13,38,3,0] 54 241 10 11 8)
noncomputable def ob3(P:ay):dR:=[(37,uN P),(2,15e8),(4,9e7),(12,gU 12),(13,11e2),(38,o38v2 P),(3,34 S4 194 12 13),(0,13e0),(62,D5 P),(63,D6 P)]
def IU:fJ:=(53 4 1 214 54 241 10 11 8 [37,2,4,12,13,38,3,0] 66 257 12 13 8)
noncomputable def ob4(P:ay):dR:=[(37,uN P),(2,15e8),(4,9e7),(12,gU 21),(13,11e2),(38,D7 P),(3,34 nv 273 30 31),(0,13e0),(74,D8 P),(75,D9 P),(83,Ea P),(84,Eb P),(90,Ec P),(91,Ed P)]
def IV:fJ:=(53 5 19 418 66 257 12 13 8 [37,2,4,12,13,38,3,0] 92 321 34 35 50)
noncomputable def ob5(P:ay):dR:=[(4,9e7),(3,34 nv 273 43 44),(12,gU 60),(13,11e2),(104,Ee P),(105,Ef P),(139,Eg P),(140,Eh P)]
def IW:fJ:=(53 24 13 407 92 321 34 35 50 [4,3,12,13] 183 441 90 94 54)
noncomputable def ob6(P:ay):dR:=[(4,9e7),(3,34 nv 273 56 57),(12,gU 99),(13,11e2)]
def IX:fJ:=(53 37 13 405 183 441 90 94 54 [4,3,12,13] 274 559 122 123 28)
noncomputable def ob7(P:ay):dR:=[(4,9e7),(3,34 nv 273 69 70),(12,gU 129),(13,11e2),(316,Ei P),(318,Ej P),(324,Ek P),(325,El P),(331,Em P),(332,En P),(338,Eo P),(339,Ep P)]
def IY:fJ:=(53 50 13 395 274 559 122 123 28 [4,3,12,13] 347 650 155 168 43)
noncomputable def ob8(P:ay):dR:=[(4,9e7),(3,34 rA 660 75 76),(12,gU 132),(13,11e2),(352,Er P),(353,Et P)]
def IZ:fJ:=(53 63 7 112 347 650 155 168 43 [4,3,12,13] 354 677 182 182 5)
noncomputable def I0(P:ay):dR:=[(3,34 rA 660 76 77)]
def Ao:fJ:=(53 70 1 74 354 677 182 182 5 [3] 355 686 183 183 10)
noncomputable def I1(P:ay):dR:=[(3,34 rA 660 77 78)]
def Ap:fJ:=(53 71 1 39 355 686 183 183 10 [3] 356 691 184 184 10)
noncomputable def aa6(P:ay):dR:=[(2,15e8),(4,9e7),(3,34 wJ 761 87 88),(12,gU 147),(13,11e2),(0,13e0),(363,Eu P),(369,Ev P),(370,Ew P),(372,Ex P),(373,Ey P),(383,Ez P),(384,EA P),(390,EB P),(391,EC P),(397,ED P),(398,EF P)]
def I2:fJ:=(53 72 11 407 356 691 184 184 10 [2,4,3,12,13,0] 406 773 210 210 3)
noncomputable def I3(P:ay):dR:=[(3,34 wJ 761 88 89),(406,EG P),(407,EH P),(408,EI P),(409,EJ P),(410,EK P),(411,EL P),(412,EM P),(413,EN P),(414,EO P),(415,EP P),(416,EQ P),(417,ER P),(418,ES P)]
def Aq:fJ:=(53 83 1 227 406 773 210 210 3 [3] 419 822 211 211 5)
noncomputable def I4(P:ay):dR:=[(3,34 wJ 761 89 90),(419,ET P),(420,EU P),(421,EV P),(422,EW P),(423,EX P),(424,EY P),(425,EZ P),(426,E0 P)]
def Ar:fJ:=(53 84 1 130 419 822 211 211 5 [3] 427 844 212 212 6)
noncomputable def aa7(P:ay):dR:=[(4,9e7),(3,34 eU 883 101 102),(12,gU 174),(13,11e2),(432,E1 P),(433,E3 P),(439,E4 P),(440,E5 P),(446,E6 P),(447,E7 P),(451,E8 P),(452,E9 P),(458,Fa P),(459,Fb P),(465,Fc P),(466,Fd P),(470,Fe P),(471,Ff P),(477,Fg P),(478,Fh P)]
def I5:fJ:=(53 85 14 320 427 844 212 212 6 [4,3,12,13] 486 934 259 262 22)
noncomputable def aa8(P:ay):dR:=[(2,15e8),(4,9e7),(3,34 eU 883 102 103),(12,gU 177),(13,11e2),(0,13e0),(498,Fi P),(499,Fj P),(505,Fk P),(506,Fl P),(519,Fm P),(520,Fo P),(526,Fp P),(527,Fq P),(533,Fr P),(534,Fs P),(540,Ft P),(541,Fu P),(554,Fv P),(555,Fw P),(561,Fy P),(562,Fz P),(568,FE P),(569,FF P),(575,FG P),(576,FI P),(585,FJ P),(586,FK P)]
def I6:fJ:=(53 99 1 624 486 934 259 262 22 [2,4,3,12,13,0] 591 1076 263 321 16)
noncomputable def aa9(P:ay):dR:=[(2,15e8),(4,9e7),(3,34 eU 883 103 104),(12,gU 180),(13,11e2),(0,13e0),(603,FL P),(604,FM P),(610,FN P),(611,FO P),(624,FP P),(625,FQ P),(631,FR P),(632,FS P),(638,FT P),(639,FU P),(645,FV P),(646,FW P),(652,FX P),(653,FY P),(659,FZ P),(660,Ga P),(666,Gb P),(667,Gc P),(676,Gd P),(677,Ge P)]
def I7:fJ:=(53 100 1 559 591 1076 263 321 16 [2,4,3,12,13,0] 682 1201 322 372 16)
noncomputable def aba(P:ay):dR:=[(2,15e8),(4,9e7),(3,34 eU 883 104 105),(12,gU 183),(13,11e2),(0,13e0),(694,Gf P),(695,Gg P),(725,Gh P),(726,Gi P)]
def I8:fJ:=(53 101 1 352 682 1201 322 372 16 [2,4,3,12,13,0] 731 1263 373 394 16)
noncomputable def abb(P:ay):dR:=[(2,15e8),(4,9e7),(3,34 eU 883 105 106),(12,gU 186),(13,11e2),(0,13e0),(743,Gj P),(744,Gk P),(750,Gl P),(751,Gm P),(753,Gn P),(754,Go P)]
def I9:fJ:=(53 102 1 258 731 1263 373 394 16 [2,4,3,12,13,0] 759 1303 395 403 20)
noncomputable def abc(P:ay):dR:=[(2,15e8),(4,9e7),(3,34 eU 883 106 107),(12,gU 189),(13,11e2),(0,13e0),(771,Gp P),(772,Gq P),(778,Gr P),(779,Gs P),(785,Gu P),(786,Gv P),(788,Gw P),(789,Gx P)]
def Ja:fJ:=(53 103 1 289 759 1303 395 403 20 [2,4,3,12,13,0] 794 1350 404 417 20)
noncomputable def abd(P:ay):dR:=[(2,15e8),(4,9e7),(3,34 eU 883 107 108),(12,gU 192),(13,11e2),(0,13e0),(806,Gy P),(807,Gz P),(841,GA P),(842,GB P),(848,GC P),(849,GD P),(851,GE P),(852,GF P)]
def Jb:fJ:=(53 104 1 426 794 1350 404 417 20 [2,4,3,12,13,0] 857 1438 418 447 32)
noncomputable def abe(P:ay):dR:=[(2,15e8),(4,9e7),(12,gU 195),(13,11e2),(0,13e0),(3,34 gg 1438 111 112),(869,GG P),(870,GH P),(872,GI P),(873,GJ P)]
def Jc:fJ:=(53 105 5 261 857 1438 418 447 32 [2,4,12,13,0,3] 878 1477 452 456 26)
noncomputable def abf(P:ay):dR:=[(2,15e8),(4,9e7),(3,34 gg 1438 112 113),(12,gU 198),(13,11e2),(0,13e0),(890,GK P),(891,GL P),(893,GM P),(894,GN P)]
def Jd:fJ:=(53 110 1 222 878 1477 452 456 26 [2,4,3,12,13,0] 899 1505 457 460 23)
noncomputable def abg(P:ay):dR:=[(2,15e8),(4,9e7),(3,34 gg 1438 113 114),(12,gU 201),(13,11e2),(0,13e0),(911,GO P),(912,GP P),(921,GQ P),(922,GR P)]
def Je:fJ:=(53 111 1 260 899 1505 457 460 23 [2,4,3,12,13,0] 927 1547 461 470 16)
noncomputable def abh(P:ay):dR:=[(2,15e8),(4,9e7),(3,34 gg 1438 114 115),(12,gU 204),(13,11e2),(0,13e0),(939,GS P),(940,GT P),(946,GU P),(947,GV P),(956,GW P),(957,GX P)]
def Jf:fJ:=(53 112 1 298 927 1547 461 470 16 [2,4,3,12,13,0] 962 1603 471 489 16)
noncomputable def abi(P:ay):dR:=[(2,15e8),(4,9e7),(3,34 gg 1438 115 116),(12,gU 207),(13,11e2),(0,13e0),(974,GY P),(975,GZ P),(981,G0 P),(982,G1 P),(988,G2 P),(989,G3 P),(997,G5 P),(1003,G6 P),(1004,G7 P),(1010,G8 P),(1011,G9 P),(1017,Ha P),(1018,Hb P),(1031,Hc P),(1032,Hd P),(1038,He P),(1039,Hf P),(1045,Hg P),(1046,Hh P),(1080,Hi P),(1081,Hj P),(1094,Hk P),(1095,Hl P),(1106,Hm P),(1107,Hn P),(1109,An P),(1110,o1110 P)]
def Jg:fJ:=(53 113 1 865 962 1603 471 489 16 [2,4,3,12,13,0] 1115 1819 490 647 64)
noncomputable def abj(P:ay):dR:=[(2,15e8),(4,9e7),(3,34 gg 1438 116 117),(12,gU 210),(13,11e2),(0,13e0),(1122,Ho P),(1128,Hp P),(1129,Hq P),(1135,Hr P),(1136,Hs P),(1156,Ht P),(1157,Hu P),(1187,Hv P),(1188,Hw P)]
def Jh:fJ:=(53 114 1 492 1115 1819 490 647 64 [2,4,3,12,13,0] 1193 1924 648 691 17)
noncomputable def abk(P:ay):dR:=[(3,34 k9 1924 119 120)]
def Ji:fJ:=(53 115 4 37 1193 1924 648 691 17 [3] 1193 1932 695 695 10)
noncomputable def abl(P:ay):dR:=[(1109,An P),(2,15e8),(4,9e7),(12,gU 213),(13,11e2),(1110,Hx P),(3,34 k9 1924 120 121),(0,13e0),(1205,Hy P),(1206,Hz P),(1212,HA P),(1213,HB P),(1219,HC P),(1220,HD P),(1226,HE P),(1227,HF P),(1233,HG P),(1234,HH P),(1240,HI P),(1241,HJ P),(1247,HK P),(1248,HL P),(1254,HM P),(1255,HN P),(1261,HO P),(1262,HP P),(1268,HQ P),(1269,HR P),(1275,HS P),(1276,HT P),(1282,HU P),(1283,HV P),(1289,HW P),(1290,HX P),(1292,HY P),(1293,HZ P)]
def Jj:fJ:=(53 119 1 670 1193 1932 695 695 10 [1109,2,4,12,13,1110,3,0] 1296 2093 696 828 71)
noncomputable def abm(P:ay):dR:=[(2,15e8),(4,9e7),(12,gU 228),(13,11e2),(0,13e0),(3,34 gh 2135 125 126),(1308,H0 P),(1309,H1 P),(1318,H2 P),(1319,H4 P),(1329,H5 P),(1330,H6 P),(1336,H7 P),(1337,H8 P),(1343,H9 P),(1344,Ia P),(1350,Ib P),(1351,Ic P)]
def Jk:fJ:=(53 120 7 392 1296 2093 696 828 71 [2,4,12,13,0,3] 1352 2165 850 853 62)
noncomputable def abn(P:ay):dR:=[(4,9e7),(3,34 gh 2135 138 139),(12,gU 267),(13,11e2),(1357,Id P),(1358,Ie P),(1362,Ig P),(1363,Ii P),(1369,Ij P),(1370,Ik P),(1376,Il P),(1377,Im P),(1383,Io P),(1384,Ip P),(1388,Iq P),(1389,Ir P),(1391,pf P),(1395,ta P),(1396,Iu P),(1400,Iv P),(1401,Iw P),(1405,Ix P),(1406,Iy P),(1412,Iz P),(1413,IA P),(1419,IB P),(1420,IC P),(1426,ID P),(1427,IE P),(1433,IF P),(1434,IG P)]
def Jl:fJ:=(53 127 13 415 1352 2165 850 853 62 [4,3,12,13] 1435 2301 995 1005 15)
noncomputable def abo(P:ay):dR:=[(4,9e7),(3,34 gh 2135 143 144),(12,gU 282),(13,11e2),(1440,II P),(1441,IJ P),(1447,IK P),(1448,IL P),(1454,IM P),(1455,IO P),(1461,IP P),(1462,IQ P),(1466,IR P),(1467,uO P)]
def kD:fJ:=(53 140 5 162 1435 2301 995 1005 15 [4,3,12,13] 1468 2354 1072 1086 70)
noncomputable def F0(P:ay):dR:=[(0,13e0),(2,Jm P),(3,Jn P),(4,9e7)]++IS P
def nx(apu:ay->dR)(g:fJ)(ob:ay->dR)(P:ay):dR:=ob P++(apu P).ov λp=>!(g.s7.hW p.1)
noncomputable def F1:=nx F0 ow tc
noncomputable def F2:=nx F1 IT mo
noncomputable def F3:=nx F2 IU ob3
noncomputable def F4:=nx F3 IV ob4
noncomputable def F5:=nx F4 IW ob5
noncomputable def F6:=nx F5 IX ob6
noncomputable def F7:=nx F6 IY ob7
noncomputable def F8:=nx F7 IZ ob8
noncomputable def F9:=nx F8 Ao I0
noncomputable def Jo:=nx F9 Ap I1
noncomputable def F11:=nx Jo I2 aa6
noncomputable def F12:=nx F11 Aq I3
noncomputable def Jp:=nx F12 Ar I4
noncomputable def Jq:=nx Jp I5 aa7
noncomputable def Jr:=nx Jq I6 aa8
noncomputable def Js:=nx Jr I7 aa9
noncomputable def F17:=nx Js I8 aba
noncomputable def F18:=nx F17 I9 abb
noncomputable def F19:=nx F18 Ja abc
noncomputable def F20:=nx F19 Jb abd
noncomputable def F21:=nx F20 Jc abe
noncomputable def F22:=nx F21 Jd abf
noncomputable def F23:=nx F22 Je abg
noncomputable def F24:=nx F23 Jf abh
noncomputable def F25:=nx F24 Jg abi
noncomputable def F26:=nx F25 Jh abj
noncomputable def F27:=nx F26 Ji abk
noncomputable def F28:=nx F27 Jj abl
noncomputable def F29:=nx F28 Jk abm
noncomputable def F30:=nx F29 Jl abn
noncomputable def F31:=nx F30 kD abo
def TW(g:fJ)(apu ob:ay->dR)(w:eB):Prop:=zV ((ob w.bV).aj (·.1)) (wI g w (apu w.bV))=G (.bA,g.n1,g.iC,cT,g.p1,(ob w.bV).aj 52e5)
def TT(g:fJ)(apu ob:ay->dR):Prop:=∀w:eB,zV ((ob w.bV).aj (·.1)) (wI g w (apu w.bV))=G (.bA,g.n1,g.iC,cT,g.p1,(ob w.bV).aj 52e5)
def t0:TT ow F0 tc:=λw=>av
def t1:TT IT F1 mo:=λw=>av
def t2:TT IU F2 ob3:=λw=>av
def t3:TT IV F3 ob4:=λw=>av
def t4:TT IW F4 ob5:=λw=>av
def apL:TT IX F5 ob6:=λw=>av
def apM:TT IY F6 ob7:=λw=>av
def apN:TT IZ F7 ob8:=λw=>av
def apO:TT Ao F8 I0:=Jt "special-get-raises" (P:=TW Ao F8 I0) (λw=>by unfold TW;kernel_rfl) λw=>by unfold TW;kernel_rfl
def apP:TT Ap F9 I1:=Jt "special-get-raises" (P:=TW Ap F9 I1) (λw=>by unfold TW;kernel_rfl) λw=>by unfold TW;kernel_rfl
def t10:TT I2 Jo aa6:=λw=>av
def t11:TT Aq F11 I3:=Jt "special-get-raises" (P:=TW Aq F11 I3) (λw=>by unfold TW;kernel_rfl) λw=>by unfold TW;kernel_rfl
def t12:TT Ar F12 I4:=Jt "special-get-raises" (P:=TW Ar F12 I4) (λw=>by unfold TW;kernel_rfl) λw=>by unfold TW;kernel_rfl
def t13:TT I5 Jp aa7:=λw=>av
def t14:TT I6 Jq aa8:=λw=>av
def t15:TT I7 Jr aa9:=λw=>av
def t16:TT I8 Js aba:=λw=>av
def t17:TT I9 F17 abb:=λw=>av
def t18:TT Ja F18 abc:=λw=>av
def t19:TT Jb F19 abd:=λw=>av
def t20:TT Jc F20 abe:=λw=>av
def t21:TT Jd F21 abf:=λw=>av
def t22:TT Je F22 abg:=λw=>av
def t23:TT Jf F23 abh:=λw=>av
def t24:TT Jg F24 abi:=λw=>av
def t25:TT Jh F25 abj:=λw=>av
def t26:TT Ji F26 abk:=λw=>av
def t27:TT Jj F27 abl:=λw=>av
def t28:TT Jk F28 abm:=λw=>av
def t29:TT Jl F29 abn:=λw=>av
def t30:TT kD F30 abo:=λw=>av
def wZ(g8:fS->b5 PySem.kB)(s:jH->al)(F:zP):I->Sp->jH->ar (Sp×jH)
 |0,S,t=>G (S,t)
 |n+1,S,t=>match Pi t with
  |true=>L
  |false=>match s t with
   |false=>L
   |true=>match sY g8 F S t with
    |G r=>wZ g8 s F n r.1 r.2
    |L=>L
def ZB(g8:fS->b5 PySem.kB)(s:jH->al)(F:zP)(n:I)(S:Sp)(t:jH):wZ g8 s F (n+1) S t=cC (Pi t) L (cC (s t) ((sY g8 F S t).cr λr=>wZ g8 s F n r.1 r.2) L):=av
def ZC{tb:fH->ar Builtin}:∀{S x:Sp} {t t':jH} {s:ae},
  wZ (rt tb) (zQ n₀ ann) ⟨p,w.bV⟩ n S t=G (x,t')->rr S s->
  ∃s',topGo tb p w n₀ ann n s t=G (s',t')/\nt S x s s':=by
 induction n with
 |i5=>intro S x t t' s h R;cases h;exact⟨s,H,.fF R⟩
 |hI n b=>
  intro S x t t' s h R;rw[ZB]at h;unfold topGo;cases e:Pi t with
  |true=>rw[e]at h;cases h
  |false=>
   rw[e]at h;cases a:zQ n₀ ann t with
   |false=>rw[a]at h;cases h
   |true=>
    rw[a]at h;have z:=OH (g8:=rt tb) (p:=p) (w:=w) (t:=t) R;cases hs:sY (rt tb) ⟨p,w.bV⟩ S t with
    |L=>rw[hs]at h;cases h
    |G r=>
     rw[hs]at h z;(show aN z λm e1 A=>?_;try clear z);show aN (b h A.N) λk e2 B=>?_;exact⟨k,by dsimp only;rw[e1];exact e2,A.aV B⟩
noncomputable def B0(P:ay):dR:=[(0,13e0),(2,Jm P),(3,Jn P),(4,9e7),(1,boot_o_1 P),(5,boot_o_5 P),(6,boot_o_6 P)]
noncomputable def Ju(w:eB):ar (Sp×jH):=wZ dn wH ⟨pw,w.bV⟩ 12 ⟨B0 w.bV,11,181⟩ (topStub pw)
def ZD(w:eB):(Ju w).aj (λx=>(x.1.n,x.1.tk,x.2,[0,2,3,4,12,13].aj (jF x.1.kt)))=
  G (15,187,⟨dn cT,cT,ow.p0,[uM s3]⟩,((F0 w.bV).aj 52e5)):=av
def Jv:dn=rt w0:=by
 unfold dn;rw[<-PySem.W.nq.te11892475500146522536,<-PySem.W.nq.te14364793385576792824]
def Jw:wH=zQ 11 (47 6):=by
 unfold wH;rw[<-PySem.W.nq.te6613529449190102663]
def ZE(w:eB)(S:Sp):sZ dn wH ⟨pw,w.bV⟩ 1 S (blockOf (zU pw) uL cT ow.p0 [uM s3])=G (.bA,S,cT,ow.p0):=by
 kernel_rfl
abbrev hb(h:ai)(apu:dR):Prop:=∀p∈apu,h.ao p.1=37e6
structure St(s₀ s:ae)(apu:dR)(n tk:I):Prop where
 d8:hb s.M apu
 an:s.M.O.an=n
 a1:s.a1=tk
 dD:s.dD=s₀.dD
 oq:s.oq=s₀.oq
 os:s.os=s₀.os
abbrev AN:12e4:=47 6
def ZF(t:zV (ob.aj (·.1)) (wI g w apu)=G (.bA,g.n1,g.iC,cT,g.p1,ob.aj 52e5))(apy:St s₀ s apu g.n0 g.s4):
  ∃s',DR w0 pw w 11 AN 1 g.apC s (piecesOf (zT g.s g.k) uL cT g.p0 [uM s3])=G (.bA,s',cT,g.p1)/\St s₀ s' (ob++apu.ov λp=>!(g.s7.hW p.1)) g.n1 g.iC:=by
 unfold zV at t;cases hr:wI g w apu with
 |L=>rw[hr]at t;cases t
 |G r=>
  obtain(⟨f,n,c,q⟩):=r;rw[hr]at t;simp only[ar.td,ar.G.fv,kF.mk.fv]at t;(show zv t λm e1 e2 u v e3=>?_;try clear t;subst m;subst u;subst v);unfold wI at hr;rw[Jv,Jw]at hr;have R:rr ⟨DW apu g.s7,g.n0,g.s4⟩ s:=⟨apy.an,apy.a1,λa o e=>apy.d8 _ (D.rB.mp (DP e)).1⟩;(show aN (OI hr R) λs' k1 i=>?_;obtain(⟨b,x,_,_⟩):=i);show⟨s',k1,λp h=>?_,b.an.aV e1,b.a1.aV e2,x.dD.aV apy.dD,x.oq.aV apy.oq,x.os.aV apy.os⟩;rcases D.lL.mp h with h|h
  ·have e4:ob.aj (λp=>jF n.kt p.1)=ob.aj λp=>37e6:=by rw[<-e3,D.rC];rfl
   exact b.jG _ _ (D.gH.mp e4 p h)
  ·show oA (D.rB.mp h) λh k=>?_;show x.bS _ _ (apy.d8 p h) ?_;cases q:jF (DW apu g.s7) p.1 with
   |L=>rfl
   |G o=>
    rw[(D.rB.mp (DP q)).2]at k;cases k
abbrev ZG(w:eB)(s₀:ae)(apu:dR)(n tk:I)(apC:I)(s:ae)(t:jH):Prop:=∃r,Pj w0 pw w 11 AN apC s t=G r/\St s₀ r apu n tk
def fin_run(p:dA):Pj w0 pw w 11 AN 3 s ⟨doneF .bA,cT,p,[uM s3]⟩=G s:=by
 obtain(⟨h,dD,oq,a1,os⟩):=s;rfl
def CC(g:fJ)(apu:ay->dR):Prop:=∀{w:eB} {s₀ s:ae},St s₀ s (apu w.bV) g.n0 g.s4->∃apC,ZG w s₀ (F31 w.bV) kD.n1 kD.iC apC s (restOf (pw.ry.cX.fi g.s) uL cT g.p0 [uM s3])
def cc{apu ob:ay->dR}(t:TT g apu ob)(h:g.s+g.k=g'.s)(e:g.n1=g'.n0/\g.iC=g'.s4/\g.p1=g'.p0)(c:CC g' (nx apu g ob)):CC g apu:=λ{w s₀ s} apy=>by
 show aN (ZF (t w) apy) λs' h1 x=>?_;(show hV e λe1 e2 e3=>?_;try clear e);show gd (c (e1▸e2▸x)) λapC r h2 a=>?_;show⟨g.apC+apC,r,?_,a⟩;have q:pw.ry.cX.fi g.s=zT g.s g.k++pw.ry.cX.fi g'.s:=by
  unfold zT;rw[<-h,<-D.ZH,D.Jx]
 rw[q];exact piece_app h1 (e3▸h2)
def gE:fJ:={kD with s:=145,n0:=kD.n1,s4:=kD.iC,p0:=kD.p1}
def ZI:CC gE F31:=λ{w s₀ s} apy=>by
 have e:pw.ry.cX.fi gE.s=[]:=av;rw[e];exact⟨_,s,piece_nil (fin_run _),apy⟩
def ZJ:CC kD F30:=cc (g':=gE) t30 H ⟨H,H,H⟩ ZI
def ZK:CC Jl F29:=59 t29 ZJ
def ZL:CC Jk F28:=59 t28 ZK
def ZM:CC Jj F27:=59 t27 ZL
def ZN:CC Ji F26:=59 t26 ZM
def ZO:CC Jh F25:=59 t25 ZN
def ZP:CC Jg F24:=59 t24 ZO
def ZQ:CC Jf F23:=59 t23 ZP
def ZR:CC Je F22:=59 t22 ZQ
def ZS:CC Jd F21:=59 t21 ZR
def ZT:CC Jc F20:=59 t20 ZS
def ZU:CC Jb F19:=59 t19 ZT
def ZV:CC Ja F18:=59 t18 ZU
def ZW:CC I9 F17:=59 t17 ZV
def ZX:CC I8 Js:=59 t16 ZW
def ZY:CC I7 Jr:=59 t15 ZX
def ZZ:CC I6 Jq:=59 t14 ZY
def c13:CC I5 Jp:=59 t13 ZZ
def c12:CC Ar F12:=59 t12 c13
def c11:CC Aq F11:=59 t11 c12
def c10:CC I2 Jo:=59 t10 c11
def apQ:CC Ap F9:=59 apP c10
def apR:CC Ao F8:=59 apO apQ
def apS:CC IZ F7:=59 apN apR
def apT:CC IY F6:=59 apM apS
def apU:CC IX F5:=59 apL apT
def c4:CC IW F4:=59 t4 apU
def c3:CC IV F3:=59 t3 c4
def c2:CC IU F2:=59 t2 c3
def c1:CC IT F1:=59 t1 c2
def c0:CC ow F0:=59 t0 c1
noncomputable def KW(P:ay):dR:=[(4,9e7),
 (3,34 gh 2135 143 144),
 (12,gU 282),
 (13,11e2),
 (1440,II P),
 (1441,IJ P),
 (1447,IK P),
 (1448,IL P),
 (1454,IM P),
 (1455,IO P),
 (1461,IP P),
 (1462,IQ P),
 (1466,IR P),
 (1467,uO P),
 (1357,Id P),
 (1358,Ie P),
 (1362,Ig P),
 (1363,Ii P),
 (1369,Ij P),
 (1370,Ik P),
 (1376,Il P),
 (1377,Im P),
 (1383,Io P),
 (1384,Ip P),
 (1388,Iq P),
 (1389,Ir P),
 (1391,pf P),
 (1395,ta P),
 (1396,Iu P),
 (1400,Iv P),
 (1401,Iw P),
 (1405,Ix P),
 (1406,Iy P),
 (1412,Iz P),
 (1413,IA P),
 (1419,IB P),
 (1420,IC P),
 (1426,ID P),
 (1427,IE P),
 (1433,IF P),
 (1434,IG P),
 (2,15e8),
 (0,13e0),
 (1308,H0 P),
 (1309,H1 P),
 (1318,H2 P),
 (1319,H4 P),
 (1329,H5 P),
 (1330,H6 P),
 (1336,H7 P),
 (1337,H8 P),
 (1343,H9 P),
 (1344,Ia P),
 (1350,Ib P),
 (1351,Ic P),
 (1109,An P),
 (1110,Hx P),
 (1205,Hy P),
 (1206,Hz P),
 (1212,HA P),
 (1213,HB P),
 (1219,HC P),
 (1220,HD P),
 (1226,HE P),
 (1227,HF P),
 (1233,HG P),
 (1234,HH P),
 (1240,HI P),
 (1241,HJ P),
 (1247,HK P),
 (1248,HL P),
 (1254,HM P),
 (1255,HN P),
 (1261,HO P),
 (1262,HP P),
 (1268,HQ P),
 (1269,HR P),
 (1275,HS P),
 (1276,HT P),
 (1282,HU P),
 (1283,HV P),
 (1289,HW P),
 (1290,HX P),
 (1292,HY P),
 (1293,HZ P),
 (1122,Ho P),
 (1128,Hp P),
 (1129,Hq P),
 (1135,Hr P),
 (1136,Hs P),
 (1156,Ht P),
 (1157,Hu P),
 (1187,Hv P),
 (1188,Hw P),
 (974,GY P),
 (975,GZ P),
 (981,G0 P),
 (982,G1 P),
 (988,G2 P),
 (989,G3 P),
 (997,G5 P),
 (1003,G6 P),
 (1004,G7 P),
 (1010,G8 P),
 (1011,G9 P),
 (1017,Ha P),
 (1018,Hb P),
 (1031,Hc P),
 (1032,Hd P),
 (1038,He P),
 (1039,Hf P),
 (1045,Hg P),
 (1046,Hh P),
 (1080,Hi P),
 (1081,Hj P),
 (1094,Hk P),
 (1095,Hl P),
 (1106,Hm P),
 (1107,Hn P),
 (939,GS P),
 (940,GT P),
 (946,GU P),
 (947,GV P),
 (956,GW P),
 (957,GX P),
 (911,GO P),
 (912,GP P),
 (921,GQ P),
 (922,GR P),
 (890,GK P),
 (891,GL P),
 (893,GM P),
 (894,GN P),
 (869,GG P),
 (870,GH P),
 (872,GI P),
 (873,GJ P),
 (806,Gy P),
 (807,Gz P),
 (841,GA P),
 (842,GB P),
 (848,GC P),
 (849,GD P),
 (851,GE P),
 (852,GF P),
 (771,Gp P),
 (772,Gq P),
 (778,Gr P),
 (779,Gs P),
 (785,Gu P),
 (786,Gv P),
 (788,Gw P),
 (789,Gx P),
 (743,Gj P),
 (744,Gk P),
 (750,Gl P),
 (751,Gm P),
 (753,Gn P),
 (754,Go P),
 (694,Gf P),
 (695,Gg P),
 (725,Gh P),
 (726,Gi P),
 (603,FL P),
 (604,FM P),
 (610,FN P),
 (611,FO P),
 (624,FP P),
 (625,FQ P),
 (631,FR P),
 (632,FS P),
 (638,FT P),
 (639,FU P),
 (645,FV P),
 (646,FW P),
 (652,FX P),
 (653,FY P),
 (659,FZ P),
 (660,Ga P),
 (666,Gb P),
 (667,Gc P),
 (676,Gd P),
 (677,Ge P),
 (498,Fi P),
 (499,Fj P),
 (505,Fk P),
 (506,Fl P),
 (519,Fm P),
 (520,Fo P),
 (526,Fp P),
 (527,Fq P),
 (533,Fr P),
 (534,Fs P),
 (540,Ft P),
 (541,Fu P),
 (554,Fv P),
 (555,Fw P),
 (561,Fy P),
 (562,Fz P),
 (568,FE P),
 (569,FF P),
 (575,FG P),
 (576,FI P),
 (585,FJ P),
 (586,FK P),
 (432,E1 P),
 (433,E3 P),
 (439,E4 P),
 (440,E5 P),
 (446,E6 P),
 (447,E7 P),
 (451,E8 P),
 (452,E9 P),
 (458,Fa P),
 (459,Fb P),
 (465,Fc P),
 (466,Fd P),
 (470,Fe P),
 (471,Ff P),
 (477,Fg P),
 (478,Fh P),
 (419,ET P),
 (420,EU P),
 (421,EV P),
 (422,EW P),
 (423,EX P),
 (424,EY P),
 (425,EZ P),
 (426,E0 P),
 (406,EG P),
 (407,EH P),
 (408,EI P),
 (409,EJ P),
 (410,EK P),
 (411,EL P),
 (412,EM P),
 (413,EN P),
 (414,EO P),
 (415,EP P),
 (416,EQ P),
 (417,ER P),
 (418,ES P),
 (363,Eu P),
 (369,Ev P),
 (370,Ew P),
 (372,Ex P),
 (373,Ey P),
 (383,Ez P),
 (384,EA P),
 (390,EB P),
 (391,EC P),
 (397,ED P),
 (398,EF P),
 (352,Er P),
 (353,Et P),
 (316,Ei P),
 (318,Ej P),
 (324,Ek P),
 (325,El P),
 (331,Em P),
 (332,En P),
 (338,Eo P),
 (339,Ep P),
 (104,Ee P),
 (105,Ef P),
 (139,Eg P),
 (140,Eh P),
 (37,uN P),
 (38,D7 P),
 (74,D8 P),
 (75,D9 P),
 (83,Ea P),
 (84,Eb P),
 (90,Ec P),
 (91,Ed P),
 (62,D5 P),
 (63,D6 P),
 (50,D3 P),
 (51,D4 P),
 (34,D1 P),
 (35,D2 P)]
noncomputable def KL(P:ay):dR:=[(4,9e7),
 (3,34 gh 2135 143 144),
 (12,gU 282),
 (13,11e2),
 (1440,II P),
 (1441,IJ P),
 (1447,IK P),
 (1448,IL P),
 (1454,IM P),
 (1455,IO P),
 (1461,IP P),
 (1462,IQ P),
 (1466,IR P),
 (1467,uO P),
 (1357,Id P),
 (1358,Ie P),
 (1362,Ig P),
 (1363,Ii P),
 (1369,Ij P),
 (1370,Ik P),
 (1376,Il P),
 (1377,Im P),
 (1383,Io P),
 (1384,Ip P),
 (1388,Iq P),
 (1389,Ir P),
 (1395,ta P),
 (1396,Iu P),
 (1400,Iv P),
 (1401,Iw P),
 (1405,Ix P),
 (1406,Iy P),
 (1412,Iz P),
 (1413,IA P),
 (1419,IB P),
 (1420,IC P),
 (1426,ID P),
 (1427,IE P),
 (1433,IF P),
 (1434,IG P),
 (2,15e8),
 (0,13e0),
 (1308,H0 P),
 (1309,H1 P),
 (1318,H2 P),
 (1319,H4 P),
 (1329,H5 P),
 (1330,H6 P),
 (1336,H7 P),
 (1337,H8 P),
 (1343,H9 P),
 (1344,Ia P),
 (1350,Ib P),
 (1351,Ic P),
 (1109,An P),
 (1110,Hx P),
 (1205,Hy P),
 (1206,Hz P),
 (1212,HA P),
 (1213,HB P),
 (1219,HC P),
 (1220,HD P),
 (1226,HE P),
 (1227,HF P),
 (1233,HG P),
 (1234,HH P),
 (1240,HI P),
 (1241,HJ P),
 (1247,HK P),
 (1248,HL P),
 (1254,HM P),
 (1255,HN P),
 (1261,HO P),
 (1262,HP P),
 (1268,HQ P),
 (1269,HR P),
 (1275,HS P),
 (1276,HT P),
 (1282,HU P),
 (1283,HV P),
 (1289,HW P),
 (1290,HX P),
 (1292,HY P),
 (1293,HZ P),
 (1122,Ho P),
 (1128,Hp P),
 (1129,Hq P),
 (1135,Hr P),
 (1136,Hs P),
 (1156,Ht P),
 (1157,Hu P),
 (1187,Hv P),
 (1188,Hw P),
 (974,GY P),
 (975,GZ P),
 (981,G0 P),
 (982,G1 P),
 (988,G2 P),
 (989,G3 P),
 (997,G5 P),
 (1003,G6 P),
 (1004,G7 P),
 (1010,G8 P),
 (1011,G9 P),
 (1017,Ha P),
 (1018,Hb P),
 (1031,Hc P),
 (1032,Hd P),
 (1038,He P),
 (1039,Hf P),
 (1045,Hg P),
 (1046,Hh P),
 (1080,Hi P),
 (1081,Hj P),
 (1094,Hk P),
 (1095,Hl P),
 (1106,Hm P),
 (1107,Hn P),
 (939,GS P),
 (940,GT P),
 (946,GU P),
 (947,GV P),
 (956,GW P),
 (957,GX P),
 (911,GO P),
 (912,GP P),
 (921,GQ P),
 (922,GR P),
 (890,GK P),
 (891,GL P),
 (893,GM P),
 (894,GN P),
 (869,GG P),
 (870,GH P),
 (872,GI P),
 (873,GJ P),
 (806,Gy P),
 (807,Gz P),
 (841,GA P),
 (842,GB P),
 (848,GC P),
 (849,GD P),
 (851,GE P),
 (852,GF P),
 (771,Gp P),
 (772,Gq P),
 (778,Gr P),
 (779,Gs P),
 (785,Gu P),
 (786,Gv P),
 (788,Gw P),
 (789,Gx P),
 (743,Gj P),
 (744,Gk P),
 (750,Gl P),
 (751,Gm P),
 (753,Gn P),
 (754,Go P),
 (694,Gf P),
 (695,Gg P),
 (725,Gh P),
 (726,Gi P),
 (603,FL P),
 (604,FM P),
 (610,FN P),
 (611,FO P),
 (624,FP P),
 (625,FQ P),
 (631,FR P),
 (632,FS P),
 (638,FT P),
 (639,FU P),
 (645,FV P),
 (646,FW P),
 (652,FX P),
 (653,FY P),
 (659,FZ P),
 (660,Ga P),
 (666,Gb P),
 (667,Gc P),
 (676,Gd P),
 (677,Ge P),
 (498,Fi P),
 (499,Fj P),
 (505,Fk P),
 (506,Fl P),
 (519,Fm P),
 (520,Fo P),
 (526,Fp P),
 (527,Fq P),
 (533,Fr P),
 (534,Fs P),
 (540,Ft P),
 (541,Fu P),
 (554,Fv P),
 (555,Fw P),
 (561,Fy P),
 (562,Fz P),
 (568,FE P),
 (569,FF P),
 (575,FG P),
 (576,FI P),
 (585,FJ P),
 (586,FK P),
 (432,E1 P),
 (433,E3 P),
 (439,E4 P),
 (440,E5 P),
 (446,E6 P),
 (447,E7 P),
 (451,E8 P),
 (452,E9 P),
 (458,Fa P),
 (459,Fb P),
 (465,Fc P),
 (466,Fd P),
 (470,Fe P),
 (471,Ff P),
 (477,Fg P),
 (478,Fh P),
 (419,ET P),
 (420,EU P),
 (421,EV P),
 (422,EW P),
 (423,EX P),
 (424,EY P),
 (425,EZ P),
 (426,E0 P),
 (406,EG P),
 (407,EH P),
 (408,EI P),
 (409,EJ P),
 (410,EK P),
 (411,EL P),
 (412,EM P),
 (413,EN P),
 (414,EO P),
 (415,EP P),
 (416,EQ P),
 (417,ER P),
 (418,ES P),
 (363,Eu P),
 (369,Ev P),
 (370,Ew P),
 (372,Ex P),
 (373,Ey P),
 (383,Ez P),
 (384,EA P),
 (390,EB P),
 (391,EC P),
 (397,ED P),
 (398,EF P),
 (352,Er P),
 (353,Et P),
 (316,Ei P),
 (318,Ej P),
 (324,Ek P),
 (325,El P),
 (331,Em P),
 (332,En P),
 (338,Eo P),
 (339,Ep P),
 (104,Ee P),
 (105,Ef P),
 (139,Eg P),
 (140,Eh P),
 (37,uN P),
 (38,D7 P),
 (74,D8 P),
 (75,D9 P),
 (83,Ea P),
 (84,Eb P),
 (90,Ec P),
 (91,Ed P),
 (62,D5 P),
 (63,D6 P),
 (50,D3 P),
 (51,D4 P),
 (34,D1 P),
 (35,D2 P)]
def KL_eq(P:ay):F31 P=KW P:=av
def Z0(P:ay):KW P=(8e0).fI 26++(1391,pf P)::(8e0).fi 26:=av
def As(P:ay):∀p∈KL P,p∈KW P:=by
 intro p s;rw[Z0];rw[<-D.Jx 26 8e0]at s;rcases D.lL.mp s with h|h
 ·exact D.w3 _ h
 ·exact D.uP _ (54 h)
def top_run(h:s₀.M=boot_heap w.bV)(i:s₀.a1=181):
  ∃apC r,Pj w0 pw w 11 AN apC s₀ (topStub pw)=G r/\St s₀ r 40e0 kD.n1 kD.iC:=by
 have p:=ZD w;cases hr:Ju w with
 |L=>rw[hr]at p;cases p
 |G x=>
  obtain⟨S,t⟩:=x;rw[hr]at p;simp only[ar.td,ar.G.fv,kF.mk.fv]at p;(show lJ p λe1 e2 v e3=>?_;try clear p;subst v);unfold Ju at hr;rw[Jv,Jw]at hr;have R:rr ⟨B0 w.bV,11,181⟩ s₀:=⟨by rw[h];rfl,i,λa o e=>by
   have n:=DP e
   rw[h]
   clear e
   simp only[B0,D.eS,D.mq,mr,kF.mk.fv]at n
   rcases n with⟨H,H⟩|⟨H,H⟩|⟨H,H⟩|⟨H,H⟩|⟨H,H⟩|⟨H,H⟩|⟨H,H⟩<;>rfl⟩
  (show aN (ZC hr R) λk k1 v=>?_;obtain(⟨m,s,_,_⟩):=v);have apy:St s₀ k (F0 w.bV) ow.n0 ow.s4:=⟨λp n=>by
   have e4:(F0 w.bV).aj (λp=>jF S.kt p.1)=(F0 w.bV).aj λp=>37e6:=by
    rw[<-e3];rfl
   exact m.jG _ _ (D.gH.mp e4 p n),m.an.aV e1,m.a1.aV e2,s.dD,s.oq,s.os⟩
  clear s;show gd (c0 apy) λapC r k2 q=>?_;clear apy;have b:=ZE w S;rw[Jv,Jw]at b;show aN (OI b m) λj k3 l=>?_;have e5:j=k:=by
   have:DR w0 pw w 11 AN 1 1 k (blockOf (zU pw) uL cT ow.p0 [uM s3])=G (.bA,k,cT,ow.p0):=cI;rw[bb]at k3;simp only[ar.G.fv,kF.mk.fv]at k3;exact k3.2.1.bi
  subst e5;have u:zU pw=pw.ry.cX.fi ow.s:=av;show⟨_,r,go_top k1 (piece_block (b:=zU pw) k3 (by rw[u];exact k2)),?_⟩;rw[KL_eq]at q;exact q
universe e
section
open PySem PySem.W PyProof.Rows PySem.Calls PySem.Spec
set_option backward.match.sparseCases false
abbrev rD:Oy:=PySem.Challenge.rw_nm0174_01
section
variable{P:ay}{h:ai}(A:hb h (KL P))
include A
def pg(a:I)(o:aA)(hm:(8e0).nw (353 a)=G (a,o)):14e4=0e4:=A _ (D.uQ hm)
def k0:h.ao mW=G 13e0:=pg A 0 _ av
def k2:h.ao rE=G 15e8:=pg A 2 _ av
def k3:h.ao iD=G (34 gh 2135 143 144):=pg A 3 _ av
def k4:h.ao 4=G 9e7:=pg A 4 _ av
def ph:h.ox iD=true:=by unfold ai.ox;rw[k3 A];kernel_rfl
def At:h.ox mW=true:=by unfold ai.ox;rw[k0 A];kernel_rfl
def Jy:h.ox rE=true:=by unfold ai.ox;rw[k2 A];kernel_rfl
def acc_ok:h.abs []=true:=by
 have e:h.uR rE=[S2,S3]:=by unfold ai.uR;rw[k2 A];kernel_rfl
 unfold ai.abs;rw[Jy A,e];kernel_rfl
def abt(e2:h₀.ao rE=G (Jm P)):staticsOk [] h₀ h=true:=by
 have e:h.uR rE=[S2,S3]:=by unfold ai.uR;rw[k2 A];kernel_rfl
 have e0:h₀.uR rE=[]:=by unfold ai.uR;rw[e2];kernel_rfl
 have n0:h₀.ox rE=true:=by unfold ai.ox;rw[e2];kernel_rfl
 have x:(S2.opensWith "type.__subclasses__.")=true:=av;have s:(S3.opensWith "type.__subclasses__.")=true:=av;unfold staticsOk;rw[n0,Jy A,e,e0];simp only[D.uS,D.te,D.all_nil,x,s,al.true_or,al.tf,al.Pk]
def abu:namesBound pw h=true:=by
 unfold namesBound;rw[ph A];unfold ai.uR;rw[k3 A];kernel_rfl
def abv(e3:h₀.ao iD=G (Jn P)):laidKept h₀ h=true:=by
 have n0:h₀.ox iD=true:=by unfold ai.ox;rw[e3];kernel_rfl
 unfold laidKept;rw[n0,ph A];unfold ai.jI;rw[e3,k3 A];kernel_rfl
def abw:h.bltView=bltViewBooted:=by
 unfold ai.bltView ai.nsPairs;rw[k0 A];kernel_rfl
def glb:builtinsGlobalAsBooted h:=by
 show⟨4,9e7,?_,k4 A,av,av⟩;rw[Pin.Pl (ph A)];unfold ai.jI;rw[k3 A];kernel_rfl
def abx:isTheDefsW pw h 51e7:=by
 show⟨1467,uO P,zR (eh 144) wY .L (.ag gh 2135) (.N 1466),DT (eh 144),uK (eh 144),DU (eh 144),?_,pg A 1467 _ av,av,av,av,av,av,av,av,av,av,av,.a4 ⟨av,av⟩,[],av,.a4 (238 av)⟩;rw[Pin.Pl (ph A)];unfold ai.jI;rw[k3 A];kernel_rfl
universe e
def Pm(w:eB):(∃s,AfterRun (opening pw) w s)/\∀s,AfterRun (opening pw) w s->∃s₀,fenceModules? pw s=G s₀/\s₀.dD= #[]/\∃r,TopRan pw w s₀ r/\r.Jz/\r.dD= #[]/\hb r.M 40e0/\r.M.O.an=kD.n1:=by
 have h:=boot_open (p:=pw) (apC:=1000) av cI (λs=>av) w;rw[<-aby]at h;show aN (ar.hh.mp h) λs₀ h2 e=>?_;simp only[kF.mk.fv]at e;(show lJ e λk c apA R=>?_;try clear e);show aN (ar.la.mp h2) λs i n=>?_;have A:=AfterImport.of_importEnds i;clear i;show⟨⟨s,A⟩,λs' P=>?_⟩;obtain H:s'=s:=AfterImport.unique P A;have z:s₀.Jz:=ae.Pn (fence_lifeW n) A.sX;show gd (top_run (s₀:=s₀) k (by rw[R];kernel_rfl)) λapC r hr apy=>?_;rw[<-aby]at hr;show lJ (topRun_spec _ _ _ _ z hr) λa l os fr=>?_;have d:=apy.d8;have apu:hb r.M (KL w.bV):=λp apq=>d p (As _ p apq);have g1:r.dD= #[]:=apy.dD.aV c;have u:importedModules pw.ry.cX=[]:=av;have e2:s₀.M.ao rE=G (Jm w.bV):=by rw[k];rfl
 have e3:s₀.M.ao iD=G (Jn w.bV):=by rw[k];rfl
 have app:s₀.M.ox iD=true:=by unfold ai.ox;rw[e3];kernel_rfl
 have t:s₀.M.jI iD "__annotations__" =47 6:=by unfold ai.jI;rw[e3];kernel_rfl
 have f:s₀.M.O.an=11:=by rw[k];rfl
 show⟨s₀,n,c,r,⟨a,l,ae.rest_eq os,λb o j m=>fr b o (f▸ai.cQ j) (λq=>m (.a4 q)) (λq=>m (.aE (.a4 q))) (λq=>m (79 ((Pin.Pl app _).aV (t.aV q)))) j,
  ?_,?_,Pin.keysAreStrs_of (ph apu),λx S=>(Pin.builtinOf_eq (At apu) x).aV (ai.of_bltView (At apu) (abw apu) x S),glb apu,λg v=>by rw[g1]at v;simp at v,names_of_bound (abu apu),laid_of_kept (abv apu e3)⟩,ae.Pn l z,g1,d,apy.an⟩
 ·rw[u];exact ai.accountedI_of_ok (acc_ok apu)
 ·rw[u];exact statics_of_ok (abt apu e2)
abbrev jJ:RowW:=rD.bx.toRowW
universe e
section
open PySem PySem.W PyProof.Rows
set_option backward.match.sparseCases false
namespace BA
def lb:Au.owners.bY (fH.ofList ['y','a','r','r','a','e','t','y','b'].et)=G Au.sig_bytearray:=av
def JA:343 "__getitem__" "bytearray.__getitem__" :=
 348 "__getitem__" kH
  (by first|exact .a4 (by decide+ci)|exact .aE (by decide+ci)) (30e7)
def abz:343 "__setitem__" "bytearray.__setitem__" :=
 348 "__setitem__" kH
  (by first|exact .a4 (by decide+ci)|exact .aE (by decide+ci)) (30e7)
def JD:343 "__len__" "bytearray.__len__" :=
 348 "__len__" kH
  (by first|exact .a4 (by decide+ci)|exact .aE (by decide+ci)) (30e7)
def Po:343 "__iter__" "bytearray.__iter__" :=
 348 "__iter__" kH
  (by first|exact .a4 (by decide+ci)|exact .aE (by decide+ci)) (30e7)
def abA:343 "__init__" "bytearray.__init__" :=
 348 "__init__" kH
  (by first|exact .a4 (by decide+ci)|exact .aE (by decide+ci)) (30e7)
def JG:343 "extend" "bytearray.extend" :=
 348 "extend" kH
  (by first|exact .a4 (by decide+ci)|exact .aE (by decide+ci)) (30e7)
def abB:mt kI "bytearray.__getitem__" =G Builtin.«bytearray.__getitem__»:=uT av
def abC:mt kI "bytearray.__setitem__" =G Builtin.«bytearray.__setitem__»:=uT av
def entry_len:mt kI "bytearray.__len__" =G Builtin.«bytearray.__len__»:=uT av
def abD:mt kI "bytearray.__iter__" =G Builtin.«bytearray.__iter__»:=uT av
def abE:mt kI "bytearray.__init__" =G Builtin.«bytearray.__init__»:=uT av
def abF:mt kI "bytearray.extend" =G Builtin.«bytearray.extend»:=uT av
def abG(a b:af):kJ "bytearray.__getitem__" (61 [a,b]):=by
 unfold kJ;rw[315 "bytearray.__getitem__" ['_','_','m','e','t','i','t','e','g','_','_'] ['y','a','r','r','a','e','t','y','b'] lb];kernel_rfl
def abH(a b c:af):kJ "bytearray.__setitem__" (61 [a,b,c]):=by
 unfold kJ;rw[315 "bytearray.__setitem__" ['_','_','m','e','t','i','t','e','s','_','_'] ['y','a','r','r','a','e','t','y','b'] lb];kernel_rfl
def abI(a:af):kJ "bytearray.__len__" (61 [a]):=by
 unfold kJ;rw[315 "bytearray.__len__" ['_','_','n','e','l','_','_'] ['y','a','r','r','a','e','t','y','b'] lb];kernel_rfl
def abJ(a:af):kJ "bytearray.__iter__" (61 [a]):=by
 unfold kJ;rw[315 "bytearray.__iter__" ['_','_','r','e','t','i','_','_'] ['y','a','r','r','a','e','t','y','b'] lb];kernel_rfl
def abK(a b:af):kJ "bytearray.__init__" (61 [a,b]):=by
 unfold kJ;rw[315 "bytearray.__init__" ['_','_','t','i','n','i','_','_'] ['y','a','r','r','a','e','t','y','b'] lb];kernel_rfl
def abL(a b:af):kJ "bytearray.extend" (61 [a,b]):=by
 unfold kJ;rw[315 "bytearray.extend" ['d','n','e','t','x','e'] ['y','a','r','r','a','e','t','y','b'] lb];kernel_rfl
universe e BA
universe e
section
open PySem PySem.W PyProof.Rows PySem.Spec PySem.SeqAt Builtin
set_option backward.match.sparseCases false
section
variable{bc:gT}{w:eB}{A:dg}{E:af->ae->Prop}{s:ae}
def JH{a:aI}{l u:af}{lo b:8e5}{Q:af×af×af->ae->Prop}(r:s.M.rF a l u .L)(k:lf l lo)(m:lf u b)
  (h:Q (uU lo,uU b,uU L) s):41 (dH.Pp 2e2):=by
 (show dU r λo e n hd=>?_;try clear r);unfold dH.Pp;show cL (hH (x:= .L) e hd H λp=>?_);kby_none;show wpAny_ite (KBy.ite_no (412 ((af.L==iE 0)=true)) ?_);show cL (hH (x:=l) e hd H λp=>?_);cases k<;>cases m<;>(first
  |(kby_none;(show bg (hH (x:= .L) e hd H ?_));kby_none)
  |(kby_none;(show bg (hH (x:= .y _ _) e hd H ?_));kby_int)
  |(kby_int;(show bg (hH (x:= .L) e hd H ?_));kby_none)
  |(kby_int;(show bg (hH (x:= .y _ _) e hd H ?_));kby_int))<;>show 20e3
 all_goals exact h
abbrev fj(b:4e9):aA:=(316 26e7 (.qs 21e9 0))
def uV{Q:bP be->ae->Prop}(x:4e4=15e1)(h:Q 21e9 s):41 (dH.w4 2e2):=by
 unfold dH.w4 dH.payload?;exact 169 (rm x (bX 22e2))
def Pq{Q:8e5->ae->Prop}(x:s.M.rF a l u .L)(h:Q L s):41 (dH.Pr 2e2):=by
 (show dU x λo b e hd=>?_;try clear x);unfold dH.Pr;exact bg (iR ⟨o,b,e⟩ abM 22e2)
def abN{Q:0e5}(hz:106 b.U)(h:Q 9e9 (281 (fj b))):41 (dH.Ps 21e9):=by
 unfold dH.Ps;exact qt h (by refine(189 b)<=_;rw[f3];exact hz)
def abO{a sl:aI}{b:4e9}{l u:af}{lo x:8e5}{Q:0e5}(m:4e4=15e1)(k:s.M.rF sl l u .L)(q:lf l lo)(j:lf u x)
  (hz:106 (KBy.Av 21e9 lo x).gi.U) (h:Q 9e9 (281 (fj (KBy.Av 21e9 lo x).gi))):41 (pm 2e2 29e5):=by
 have n:47e6 :=(51 m);show wpAny_getItem_slot n aq BA.JA (ny BA.JA n BA.abB ?_ (BA.abG _ _));refine aY _ _ (dH.Pr 29e5>>=λr=>_) _ _ s;show cL (Pq k λp=>?_);show dU (id k) λo i v hd=>?_;show cL (ti ⟨o,i,v⟩ λp=>?_);refine aY _ _ (dH.Pp 29e5>>=λr=>_) _ _ s;show cL (JH k q j λp=>?_);show cL (uV m λp=>?_);show cL (gu (Pt lo x L b.U (λe=>19e2)) λp=>?_);refine aY _ _ (dH.Ps (KBy.Av 21e9 lo x)>>=λr=>_) _ _ s;show bg (abN (b:=(KBy.Av 21e9 lo x).gi) hz (bX ⟨_,H,h⟩))
universe e
universe e
section
open PySem PySem.W PyProof.Rows PySem.Spec PySem.SeqAt
open Builtin hiding id
set_option backward.match.sparseCases true
section
variable{bc:gT}{w:eB}{A:dg}{E:af->ae->Prop}{s:ae}
def dF{c:Prop}[d:rg c]{t:c->al}{e:¬c->al}(h:¬c)(s:e h=false):dite c t e=false:=(dif_neg h).aV s
def abP{id pn p f1 f2 apV apW apX f6 f7}(g:Pu.hW id=false)(a:∀v t k q,f6 id v t k q=false)(s:∀x,f7 x=false):
  dH.w5.match_1 (λr=>al) (.bJ id pn,p) f1 f2 apV apW apX f6 f7=false:=by
 have ne:∀i,Pu.hW i=true->id≠i:=λi h e=>al.Ov ((e▸g).bi.aV h);delta dH.w5.match_1 dH.w5._sparseCasesOn_1;show dF (ne "bytearray.__contains__" 9e8) <| dF (ne "bytearray.__mod__" 9e8) <| dF (ne "bytearray.__rmod__" 9e8) <| dF (ne "_struct.pack_into.held" 9e8) <| dF (ne "bytearray.find.held" 9e8) ?_;obtain⟨aU,b⟩:=pn;cases aU
 ·exact s _
 ·exact a ..
set_option tactic.hygienic true in
theorem Pv{Q:28e9}(u:A.j7=G [])(h:Q false s):134 A (dH.w5 2e2) Q E s:=by
 intro Γ p n hd m;have r:guardsOf ((Γ.dI,p)::Γ.uG)=[]:=(guardsOf_cons ..).aV (n.2.2.2.1 [] u);have cR:∀b,b=false->Q b s:=λb e=>e▸h;show cR (((Γ.dI,p)::Γ.uG).fP _) (D.any_eq_false.bn λc x=>al.abQ.mp ?_);have h1:c.1.isGuard=false:=al.abQ.bn (D.filter_eq_nil_iff.mp r _ (D.oz x));have h2:=Cl.sS hd m c x;clear r x m hd n;obtain⟨c,p⟩:=c;cases c using fS.cE;case bJ id pn=>exact abP h1 (λv t k q=>by rw[show dH.wx.hW _=false from h2];exact al.and_false _) λi=>rfl
 all_goals rfl
def Pw{Q:138 I}(x:4e4=15e1)(h:Q 0 s):41 (dH.JI 2e2):=by
 unfold dH.JI;exact bg (rm x 22e2)
def Px{Q:17e3}(e:A.j7=G [])(x:4e4=15e1)(h:Q () s):134 A (dH.JJ 2e2) Q E s:=by
 unfold dH.JJ;show aZ (m:=(dH.w5 2e2 <||> (do return(<-dH.JI 2e2)>0))) (aZ (Pv e ?_));exact 166 (Pw x (bH (bH h)))
def w6{f:bP be->bP be}{Q:17e3}(x:4e4=15e1)(hz:106 (f 21e9).an)
  (h:∀h',18e4=282 (f 21e9).gi->168 a h'->158 ()):41 (dH.uW 2e2 f):=by
 unfold dH.uW updateBytearray;show cL (rm x λr=>?_);have e:(s.M.eN a (aA.mapBytearray f)).ao a=282 (f 21e9).gi:=258 x H;show bg (abR x (abS e ?_ (h _ e (ai.fA.eN ..))));refine(uX.qs (f 21e9) 0).pastItsLine=L;unfold uX.pastItsLine;dsimp only;rw[d6 (by rw[f3];exact I.dv.bn hz)]
universe e
set_option backward.match.sparseCases false
section
variable{bc:gT}{w:eB}{A:dg}{E:af->ae->Prop}{s:ae}
def JK{R:43e9}{id:fH}{x:Args}{b:Builtin}(p:mt kI id=G b)(r:dH.wx.hW id=false)
  (h:aM 6e2 (A.hG (.bJ id x)) (b x)
   (λeg s'=>match eg with| .kz f=>219 f s'| .mi a=>a.sT=true/\96 A a R s') (14e7) s):
  96 A (.bJ id x) R s:=by
 show mh r ?_;refine aM _ _ (match mt kI id with|G b=>b x|L=>X1 ((withoutEnding? id "#data").ge id)) _ _ s;rw[p];exact h
def JL{R:43e9}{id:fH}{x:Args}{b:Builtin}(p:plainId id=true)(m:dH.wx.hW id=false)(n:mt kI id=G b)
  (h:aY 6e2 A.fh (w7 id x) (λa r=>aM 6e2 A.fh (b x)
   (λeg s'=>match eg with| .kz f=>219 f s'| .mi k=>k.sT=true/\96 A k R s') (14e7) r)
   (14e7) s):96 A (.aX (.bJ id) x) R s:=by
 show mh H ?_;refine aM _ A.fh (do w7 id x;mi (.bJ id x)) _ _ s;show 148 h (λa r v=>bH (i4.nr (Aw p x) (JK n m ?_))) 26e8;rw[dg.Py p x];exact v
def abT{apq n p:fH}{v:Builtin}{a:2e5}{Q Q₁:0e5}(ft:TypeCalled apq n p)
  (hct:abU apq (61 a)=b9 ()) (abV:mt kI p=2e4) (abW:dH.wx.hW p=false)
  (JM:uY 6e2 A.fh (.aX (.bJ n) ⟨42e6::a,[]⟩) (uZ Q₁ E) s)
  (JN:∀Z b,Q₁ Z b->b.kK Z apq/\kJ p ⟨Z::a,[]⟩/\
   aM 6e2 A.fh.fh (v ⟨Z::a,[]⟩)
    (λeg s'=>match eg with| .kz f=>uZ (λr x=>r= .L/\Q Z x) E (.Y f) s'| .mi q=>q.sT=true/\96 A.fh q (uZ (λr x=>r= .L/\Q Z x) E) s')
    (λe s'=>uZ (λr x=>r= .L/\Q Z x) E (.dJ e) s') b):
  134 A (aX 42e6 a) Q E s:=by
 show qh ft.qu λc g j=>?_;have u:=ft.made;have t:=ft.a2;have h1:=ft.notType;have h2:=ft.canCreate;show rh (mh H ?_);refine aM _ _ (sU 42e6 _) _ _ _;show bH ⟨fS.Pz _ 9e8,JK apu.entry_type_call 9e8 ?_⟩;rw[dg.under_plain (weight_type_call_type apq a []) H];unfold Builtin.«type.__call__»;dsimp only;rw[d6 (by rw[h1];decide)];rw[d6 (by rw[h2];decide)];show ff (398 hct);show ff (398 j);show mg (by exact al.lM) λh h=>?_;show ff (398 u);show 29e0;show 184 (JO (abX JM λr b hr=>?_));cases r with
 |dJ e=>exact hr
 |Y fl=>
  cases fl with
  |bk Z=>
   show hV (JN _ _ hr) λm i app=>?_;show ff (oC m t λh=>?_);show mg aq λh h=>?_;show 91 ?_;unfold Ax;show ff (iR m ft.jK.bY λh=>?_);show dh ?_;rw[ft.jK.cr];show 182 (aZ (rh ?_));show zA (JL ft.jK.tj abW abV (ft.jK.check _ _ _ _ _ _ _ _ m (by simpa-fu using i) (by simpa-fu using app))) λo x k=>?_;cases o with
   |dJ e=>exact k
   |Y d=>
    cases d with
    |bk r=>
     (show oA k λz l=>?_;try clear k;subst z);show 32e5;exact bH l
    |_=>exact k.ak
  |_=>exact hr.ak
namespace BA
def qu:Ay 26e7=b9 [26e7,6e9]:=by rw[mroOf_type];kernel_rfl
def abY:po 26e7 "__new__" =b9 (G (.bJ "bytearray.__new__")):=by rw[kG,kH];kernel_rfl
def called:TypeCalled "bytearray" "bytearray.__new__" "bytearray.__init__" :=
 ⟨by decide+ci,by decide+ci,⟨_,_,qu⟩,madeBy_type qu abY 9e8,by decide+ci,by rw[lc];kernel_rfl,abA⟩
def typeCall(a:af):abU "bytearray" (61 [a])=b9 ():=av
def abZ(a:af):w7 "bytearray.__new__" (61 [26e7,a])=b9 ():=av
def ab0:mt kI "bytearray.__new__" =G Builtin.«list.__new__»:=by
 have h1:kI "bytearray.__new__" =L:=by rw[ab1,ab2];kernel_rfl
 have h2:kI "list.__new__" =G Builtin.«list.__new__»:=by rw[ab1,ab2];kernel_rfl
 have h3:Au.canonical (("bytearray.__new__" :fH).aj (λc=>if c.isAlphanum||c== '_' ||c== '.' then c else '_'))++ "" = "list.__new__" :=by decide+ci
 have s:("bytearray.__new__" :fH).cutAt '#' =["bytearray.__new__"]:=by decide+ci
 unfold mt;rw[h1,s];dsimp only;rw[h3,h2]
def PC:plainId "bytearray.__new__" =true:=by decide+ci
def jl:lN 26e7 26e7=b9 true:=by rw[lc];kernel_rfl
universe e BA
set_option maxRecDepth 1000000 in
set_option maxHeartbeats 4000000 in
theorem BA.ab3:("bytearray.__new__".splitOn ".__new__").headD "" = "bytearray" :=by simp+bM [fH.splitOn,fH.splitOnAux]
def ab4(a:af){Q₁:0e5}(h:Q₁ 9e9 (281 (fj []))):
  uY 6e2 A (.aX (.bJ "bytearray.__new__") (61 [26e7,a])) (uZ Q₁ E) s:=by
 show ab5 ?_;refine aY _ A.fh (do w7 "bytearray.__new__" (61 [26e7,a]);mi (.bJ "bytearray.__new__" (61 [26e7,a]))) _ _ s;show bg (gu (BA.abZ a) (bX ⟨Aw BA.PC _,codeAny_builtin_stack BA.ab0 H λp F=>?_⟩));rw[dg.Py BA.PC _];have e:=BA.jl;have x:=BA.ab3;obtain(⟨b,g,d,tk,os⟩):=s;simp only[x];wp_walk;exact h
universe e
section
variable{bc:gT}{w:eB}{A:dg}{E:af->ae->Prop}{s:ae}
def BA.cr(v:af):dH.bindOptional "bytearray.__init__" "bytearray" ["source", "encoding", "errors"] [v] []=b9 [2e4,L,L]:=av
def BA.ab6:343 "__release_buffer__" "bytearray.__release_buffer__" :=
 348 "__release_buffer__" kH
  (by first|exact .a4 (by decide+ci)|exact .aE (by decide+ci)) (30e7)
def ip.tl:oy "bytes" "__buffer__" "bytes.__buffer__" :=
 .of (lb:= "bytes") (n:= "__buffer__") (by rw[kG,kH];kernel_rfl) 9e8 9e8 9e8
  (by first|exact .a4 (by decide+ci)|exact .aE (by decide+ci)) (30e7)
def ip.ab7:po 27e0 "__release_buffer__" =b9 L:=by rw[kG,kH];kernel_rfl
def ip.PD:po 27e0 "__index__" =b9 L:=by rw[kG,kH];kernel_rfl
def ip.ab8:po 27e0 "__int__" =b9 L:=by rw[kG,kH];kernel_rfl
def ip.ab9:po 27e0 "__float__" =b9 L:=by rw[kG,kH];kernel_rfl
def ip.aca:lN 27e0 26e7=42e2:=by rw[lc];kernel_rfl
def ip.acb:lN 27e0 (.aB "complex")=42e2:=by rw[lc];kernel_rfl
def ip.jl:lN 27e0 27e0=b9 true:=by rw[lc];kernel_rfl
def ends1:(56e7).endsWith ("." ++ "__release_buffer__")=true:=by decide+ci
def PE:("bytes.__buffer__" :fH).endsWith ("." ++ "__buffer__")=true:=by decide+ci
def drop1:(56e7).dropRight (("__release_buffer__" :fH).U+1)= "bytearray" :=by decide+ci
def PF:("bytes.__buffer__" :fH).dropRight (("__buffer__" :fH).U+1)= "bytes" :=by decide+ci
def acc{Q:28e9}(e:4e4=15e1)(h:Q false s):41 (dH.JP 2e2):=by
 have x:47e6 :=(51 e);unfold dH.JP dH.JQ;show 169 (iR x BA.ab6.bY ?_);try dsimp only
 rw[ends1,drop1,d6 aq];exact oC x BA.jl 22e2
def acd{Q:28e9}(h:Q false s):41 (dH.JP (.iS b tk)):=by
 unfold dH.JP dH.JQ;exact 169 (iR (pq s b tk) ip.ab7 (bX 22e2))
def PG{b:bP be}{tk:Tok}{id:fH}{full:al}{Q:ar (bP be)->ae->Prop}(h:Q (G b) s):41 (dH.buffer? id (.iS b tk) full):=by
 have e:=pq s b tk;unfold dH.buffer?;show cL (iR e ip.tl.bY λx=>?_);unfold dH.JQ;show 169 (iR e ip.tl.bY ?_);try dsimp only
 rw[PE,PF,d6 aq];show oC e ip.jl ?_;show sR aq λx x=>?_;show cL (iR e ip.tl.bY λx=>?_);show cL (acd λx=>?_);show sR aq λx x=>?_;exact bg (gu (a:=b) H 22e2)
def ace{a:aI}{v:af}{R:138 kB}{b:4e9}(p:A.j7=G [])(e:4e4=282 [])
  (hv:(∃n tk,v= .y n tk/\0<=n/\n<=16777216/\b=286 0)\/(∃tk,v= .iS 21e9 tk/\b.U<=16777216))
  (h:∀h',18e4=15e1->168 a h'->R (.kz (.bk .L)) 35e9):
  134 A (Builtin.«bytearray.__init__» (61 [2e2,v])) R E s:=by
 unfold Builtin.«bytearray.__init__»;show ff (acc e λx=>?_);show mg aq λx x=>?_;show ff (gu (BA.cr _) λx=>?_);show ff (323 ());show ff (323 ());show aZ (m:=(dH.w5 2e2 <||> (do return(<-dH.JI 2e2)>0))) (aZ (Pv p ?_));show eQ (Pw e 32e5);show mg aq λx x=>?_;show ff (w6 (b:=[]) e (by simp) λh1 e1 s1 x=>?_);have e1:h1.ao a=282 []:=e1;rcases hv with⟨n,tk,H,h0,hz,H⟩|⟨tk,H,hz⟩
 ·show ff (323 L);show uH aq <|?_;show ff (323 ());show ff (iR (s:=47e8) (Az _ n tk) apu.PH.bY λx=>?_);show wy cI <|?_;show ff (tm (323 n));show mg (by simp only[dH.fitsIndex,al.w8,al.acf,al.lg,mX];lia) λx x=>uH (by exact K.AA h0) <| mg (by simp only[AB];lia) λx x=>mg (by simp only[dH.tooLong,mX,f3];lia) λx x=>?_;show ff (nz λx=>?_);split
  ·show ff (w6 (s:=47e8) e1 (by simp;exact K.le_def.bn hz) λh2 e2 r x=>?_);exact bH (h h2 (by simpa using e2) (s1.aV r))
  ·have:n.aJ=0:=bN;exact bH (h h1 (by rw[bb];exact e1) s1)
 ·show ff (323 L);show uH aq <|?_;show ff (323 ());show ff (iR (s:=47e8) (pq _ _ _) ip.PD λx=>?_);show mg aq λx x=>?_;show ff (PG λx=>?_);show ff (nz λx=>?_);show ff (w6 (s:=47e8) e1 (by simpa using hz) λh2 e2 r x=>?_);exact bH (h h2 (by simpa using e2) (s1.aV r))
def PJ{Q:0e5}(p:A.j7=G [])
  (hv:(∃n tk,v= .y n tk/\0<=n/\n<=16777216/\b=286 0)\/(∃tk,v= .iS 21e9 tk/\b.U<=16777216))
  (h:∀h',47e2=15e1->(∀c o,37e0=0e4->h'.ao c=0e4)->h'.O.an=s.M.O.an+1->158 9e9):
  134 A (aX 26e7 [v]) Q E s:=by
 show abT BA.called (BA.typeCall v) BA.abE 9e8 (ab4 v (Q₁:=λZ x=>Z= 9e9/\x=(281 (fj []))) 15e2) ?_;rintro Z x ⟨H,H⟩;have e0:(s.M.b6 (fj [])).ao s.M.O.an=282 []:=10e0;show⟨(51 e0),BA.abK _ _,ace (A:=A.fh.fh) p e0 hv λh' r s'=>?_⟩;show⟨H,h h' r (λc o e=>?_) (by rw[s'.1,ai.iO])⟩;have a:=9e1;exact(s'.2 c (I.iq a)).aV 33e0
universe e
namespace BA
def PK:Au.owners.bY (fH.ofList ['r','o','t','a','r','e','t','i','_','y','a','r','r','a','e','t','y','b'].et)=G Au.sig_bytearray_iterator:=av
def u3:oy "bytearray_iterator" "__next__" "bytearray_iterator.__next__" :=
 .of (lb:= "bytearray_iterator") (n:= "__next__") (by rw[kG,kH];kernel_rfl) 9e8 9e8 9e8
  (by first|exact .a4 (by decide+ci)|exact .aE (by decide+ci)) (30e7)
def PL:mt kI "bytearray_iterator.__next__" =G Builtin.«bytearray_iterator.__next__»:=uT av
def PM(a:af):kJ "bytearray_iterator.__next__" (61 [a]):=by
 unfold kJ;rw[315 "bytearray_iterator.__next__" ['_','_','t','x','e','n','_','_'] ['r','o','t','a','r','e','t','i','_','y','a','r','r','a','e','t','y','b'] PK];kernel_rfl
universe e BA
def nA(h:ai)(it a:aI)(i:I):Prop:=∃o,h.ao it=0e4/\o.bj= 41e2 /\o.bf= .cp #[2e2,3 i]
def nA.mY{s:ae}{it a:aI}{i:I}(x:nA s.M it a i):s.kK 32e7 "bytearray_iterator" :=(by(show dU x λo h e b=>?_;try clear x);exact⟨o,h,e⟩)
section
variable{bc:gT}{w:eB}{A:dg}{E:af->ae->Prop}{s:ae}
def PN{Q:0e5}(x:4e4=15e1)
  (hQ:Q 9e9 {s with M:=210 41e2 (.cp #[2e2,1e4])}):41 (qv 2e2):=by
 have h:47e6 :=(51 x);show PQ h BA.Po (ny BA.Po h BA.abD ?_ (BA.abJ _));refine aY _ _ (do bk (<-newFields "bytearray_iterator" [2e2,iE 0])) _ _ s;exact bg (qt (bX ⟨_,H, "bytearray_iterator",_,⟨_,10e0,H⟩,BA.u3.bY,hQ⟩))
def PR{it a:aI}{i:I}{b:4e9}{c:be}{Q:12e4->ae->Prop}(eu:nA s.M it a i)(r:4e4=15e1)(k:b[i]? =G c)
  (hQ:∀h',nA h' it a (i+1)->168 it h'->Q (G (.y c.aJ s.a1)) (350 h' s.a1 1)):41 (Ax 32e7 "__next__"):=by
 show dU (id eu) λo h p hd=>?_;show 389 eu.mY BA.u3
  (ny BA.u3 eu.mY BA.PL ?_ (BA.PM _))
 refine aY _ _ (ro 32e7 0>>=_) _ _ s;show bg (hH h hd (x:= 2e2) H ?_);show bg (rm r ?_);dsimp-fu only;show bg (hH h hd (x:= 3 i) H ?_);dsimp only;have e:(bP.mk b)[(i:K).aJ]? =G c:=by rw[K.tp];simpa-fu using k
 rw[e];dsimp only;show bg (u6 h hd (by exact I.one_lt_succ_succ [].U) ?_);show bg (wpAny_mkInt (bX ⟨_,H,hQ _ ?_ (ai.fA.eN ..)⟩));exact⟨_,258 h (aA.isFreed_of_fields (aA.acg hd _)),(aA.cls_mapFields ..).aV p,by
  rw[aA.acg hd];simp-fu [iE]⟩
def ach{Q:0e5}(eu:nA s.M it a i)(h:4e4=15e1)(x:b[i]? =G c)
  (hQ:∀h',nA h' it a (i+1)->168 it h'->Q (.y c.aJ s.a1) (350 h' s.a1 1)):41 (pr.tq 32e7):=by
 unfold pr.tq;exact bg (PR eu h x λh' a b=>bX (hQ h' a b))
def PS{it a:aI}{i:I}{b:4e9}{Q:12e4->ae->Prop}(r:A.e9=L)(eu:nA s.M it a i)(p:4e4=15e1)(k:b[i]? =L)
  (hE:∀h' e,ai.u7 it s.M h'->(∃o,42e7=0e4/\o.bj= 44e4)->E 9e6 35e9):41 (Ax 32e7 "__next__"):=by
 show dU (id eu) λo h n hd=>?_;show(389 eu.mY BA.u3
  (ny BA.u3 eu.mY BA.PL ?_ (BA.PM _)))
 refine aY _ _ (ro 32e7 0>>=_) _ _ s;show bg (hH h hd (x:= 2e2) H ?_);show bg (rm p ?_);dsimp-fu only;show bg (hH h hd (x:= 3 i) H ?_);dsimp only;have e:(bP.mk b)[(i:K).aJ]? =L:=by rw[K.tp];simpa-fu using k
 rw[e];dsimp only;show bg (nz (bg (u6 h hd (by exact aci H) (bg (PU ?_)))));refine aY _ _ (JR 44e4 []>>=_) _ _ _;show 23e7;dsimp-fu only[JR,newTuple];show bg 51e1;show bg (m:=JU _ _) (gu (a:=af.L) (by first|rfl|(dsimp-fu only[JU];rfl)) ?_);show 51e1;dsimp-fu only[JV];show bg (PV ?_);first|rw[show A.fh.e9=L from r]|rw[r]
 show bg (bX (wpAny_throw ?_));exact hE _ _ (((ai.fA.eN ..).mu.b6 _).b6 _) ⟨_,10e0,H⟩
def PW{Q:0e5}(x:A.e9=L)(eu:nA s.M it a i)(h:4e4=15e1)(r:b[i]? =L)
  (hE:∀h' e,ai.u7 it s.M h'->(∃o,42e7=0e4/\o.bj= 44e4)->E 9e6 35e9):41 (pr.tq 32e7):=by
 unfold pr.tq;exact bg (PS x eu h r hE)
universe e
def PY(j:A.e9=L)(it a:aI)(u:a≠it)(b:D be):
  Draws bc w A it [it,a] b.U (λi v=>∃c t,b[i]? =G c/\v= .y c.aJ t) (λi h=>nA h it a i/\h.ao a=G (fj b))where
 j8:=λx x F=>(by show aN F.1 λo e x=>?_;exact⟨o,e⟩)
 ec:=λx x x F k=>⟨(by show aN F.1 λo e r=>?_;exact⟨o,k it (by exact D.dQ) o e,r⟩),k a (by simp-fu) _ F.2⟩
 item:=λi s Q E p F l=>by
  show ach F.1 F.2 (c:=b[i]) (by simp-fu [p]) λh' n m=>?_;exact l _ h' _ ⟨b[i],_,by simp-fu [p],H⟩ ⟨n,(m.2 a u).aV F.2⟩ m
 done:=λs Q E F q=>PW j F.1 F.2 (by simp-fu) q
def ctt{α:Type}{f:al->9e4}{Q E s}(h:∀b,68 (f b)):68 (pr.calledThroughType bj>>=f):=
 169 (wpAny_stack_any λx=>bX (h _))
def acj(l:aI)(b:4e9):
  Meets (Builtin.«enumerate.__new__» (61 [47e0,.N l])) (λr R s=>s.M.ao l=15e1/\
   R (.Y (.bk (.N (210 41e2 (.cp #[.N l,1e4])).O.an)))
    {s with M:=(210 41e2 (.cp #[.N l,1e4])).b6 (337 47e0 #[.L,33e5,9e9,iE 0,.L,.L])}):=
 .of_wp λbc w A R s h=>by
  obtain(⟨a,g,d,tk,os⟩):=s;show oA h λx h=>?_;have p:=sub_enumerate;have hL:(ae.M ⟨a,g,d,tk,os⟩).ao l=15e1:=x;wp_walk using ctt,AutoSeq1.wpAny_loadPart' x;intro e;cases e<;>(wp_walk using AutoSeq1.wpAny_loadPart' x,PN hL)<;>exact⟨_,H,h⟩
section
variable{bc:gT}{w:eB}{A:dg}{E:af->ae->Prop}{s:ae}
def ack{Q:0e5}(a:s.M.ao l=15e1)
  (h:∀h',u8 h' (181 1) s.M.O.an 0 .L->nA h' s.M.O.an l 0->h'.O.an=s.M.O.an+2->
   (∀b o,8e8=0e4->11e8=0e4)->158 24e0):
  41 (aX 47e0 [.N l]):=by
 show acl apu.called_enumerate aq (apu.typeCall_enumerate_1 _) (apu.newCall_enumerate_1 _) (λZ=>apu.acm Z _) apu.entry_enumerate_new
  (acj l b) ⟨a,?_⟩
 have hz:(210 41e2 (.cp #[.N l,1e4])).O.an=s.M.O.an+1:=ai.iO ..;refine _/\_;rw[hz];have e:u8 ((210 41e2 (.cp #[.N l,1e4])).b6
   (337 47e0 #[.L,33e5,9e9,iE 0,.L,.L])) (181 1) s.M.O.an 0 .L:=by
  have:=ai.fG (210 41e2 (.cp #[.N l,1e4]))
   (o:=(337 47e0 #[.L,33e5,9e9,iE 0,.L,.L])) H
  rw[hz]at bb;exact bb
 show⟨(51 e),h _ e ⟨_,117 10e0,H,H⟩ (by rw[ai.iO,hz]) λb o x=>300 x⟩
universe e
universe e
section
open PySem PySem.W PyProof.Rows PySem.Calls
set_option backward.match.sparseCases false
section
variable{bc:gT}{w:eB}{A:dg}{E:af->ae->Prop}{s:ae}{R:mf->ae->Prop}
def acn{α:Type}{apB:iB}{ab:eA}{m:9e4}{aU:dA}{Q:14e6}(h:108 m Q (j6 apB A ab E) s):
  29 (m.qk λx=>do mT x ab;ky aU):=
 wz (eX h (λa a q=>q) λa a b=>aM.of (bg (hY b (λa a e=>pt e) λa a e=>e)))
def aco{pv iT lO j9 bt aU it cP ab}
  (h0:96 A (.qw (133 pv iT lO j9 bt) 0 it cP ab) R s)
  (h:aY 6e2 A (qv it) (λe s'=>96 A (.qw (133 pv iT lO j9 bt) 0 e cP ab) R s')
   (j6 6e2 A ab λx s'=>R (.dJ x) s') s):
  96 A (.xa (133 pv iT lO j9 bt) 0 it cP ab) R s:=by
 show mh H ?_;refine aM _ _ ((xa (133 pv iT lO j9 bt) 0 it cP ab).qk (λx=>do mT x ab;ky theWindowsPlace)) _ _ s;show acn ?_;unfold xa;refine aM _ _ (ask>>=_) _ _ s;show eQ (acp ?_);split
 ·first
   |exact aZ (bH (bH (i4.nr H h0)))
   |exact bH (i4.nr H h0)
 ·show eQ (nz ?_);refine aM _ _ (ky lO.aU>>=_) _ _ s;exact eQ (pt (148 h (λe s' h'=>bH (i4.nr H h')) (λa a x=>x)))
def PZ
  (turn:aY (bh bc w) A (oD it) (λr a=>match r with
   |L=>219 .bA a
   |G v=>273 w A (AC iT it v) (λh a=>134 A (rG iT ab v) (λh q=>
     aM (6e2) A (forIn j9 true λc r=>if r=true then do let Y<-sV c ab (78 c);b9 (xb.uI Y)else b9 (xb.uI r)) (λY p=>
      if Y=true then 134 A (78 pv) (λx k=>
       aM (6e2) A (409 [cP,x]) (λh n=>96 A (.qw (133 pv iT lO j9 bt) 0 it cP ab) R n) (j6 6e2 A ab 14e7) k) (j6 6e2 A ab 14e7) p
      else 96 A (.qw (133 pv iT lO j9 bt) 0 it cP ab) R p) (j6 6e2 A ab 14e7) q) (j6 6e2 A ab 14e7) a) (j6 6e2 A ab 14e7) a) (j6 6e2 A ab 14e7) s):
  96 A (.qw (133 pv iT lO j9 bt) 0 it cP ab) R s:=by
 show mh H ?_;refine aM _ A (407 (compTurn (133 pv iT lO j9 bt) 0 it cP ab)) _ _ s;show zB ?_;rw[compTurn_list];show eQ (pt (148 turn (λr a b=>?_) 47e3));cases r with
 |L=>exact bH b
 |G v=>
  show 148 b (λh a b=>?_) 47e3;show aZ (eX b (λh q i=>aZ (eX i (λY p m=>?_) 47e3)) 47e3);cases Y with
  |false=>exact bH (238 m)
  |true=>
   exact aZ (aZ (eX m (λx k j=>aZ (eX j (λh n u=>bH (bH (238 u))) 47e3)) 47e3))
def acq{Q:0e5}
  (gK:clausesOf e=g::gs) (hs:∀x,u9 g.lO ab x=b9 x) (JY:AD bt ab=b9 cl)
  (JZ:bt.d9= .jL) (xd:∀x∈bt.bq,x.2= .cV->bt.bq.bY x.1=12e3)
  (h:108 va (λx p=>aY apB A (qv x) (λit n=>aY apB A J0 (λcP b=>
   aY apB A (zI bt ab.ha cl [] ab.px L .L (G ab)) (λjM k=>
    e8 apB A (.xa e 0 it cP (319 bt ab)) (λr s'=>match r with
     | .Y _=>∃m,s'.M.Ns jM.cY m/\∀h',ai.fA jM.cY s'.M h'->Q cP {s' with M:=h'}
     | .dJ x=>fT) k) E b) E n) E p) E s):
  29 (J1 e bt ab aU J0 false va L):=by
 unfold J1;rw[JY,gK];show aZ (eX h (λx p c=>eQ (pt (eQ (gu (hs x) (eQ (nB (hY c (λit n w=>?_) 26e8))))))) 26e8);rw[d6 aq];show 148 w (λcP b j=>182 (148 j (λjM k l=>?_) 26e8)) 26e8;dsimp only;have i:∀x∈(bt.bq.ov λx=>(x.2== .cV||x.2== .dm)&&x.1 !=(".0" :am)).et,x.2= .cV->
   eA.dB (319 bt ab) x.1=12e3:=λx o q=>acr (xd x (D.rB.mp (D.AE.mp o)).1 q)
 show dh (aZ (wB (dh (DC ?_ (by intro x;cases x)))));rw[wC];show zA l λr s' hr=>?_;cases r with
 |Y f=>
  show aN hr λm v hr=>?_;exact eQ (nB (acs (jM:=(319 bt ab)) JZ _ s' m i v λh' m' a u=>bH (hr h' u)))
 |dJ x=>exact hr.ak
universe e
universe e
section
open PySem PySem.W PyProof.Rows PySem.Spec PySem.SeqAt
open Builtin hiding id
set_option backward.match.sparseCases false
namespace BA
def P0:oy "bytearray_iterator" "__iter__" "bytearray_iterator.__iter__" :=
 .of (lb:= "bytearray_iterator") (n:= "__iter__") (by rw[kG,kH];kernel_rfl) 9e8 9e8 9e8
  (by first|exact .a4 (by decide+ci)|exact .aE (by decide+ci)) (30e7)
def entry_self:mt kI "bytearray_iterator.__iter__" =G Builtin.«dict_keyiterator.__iter__»:=entryFor_alias (id':= "dict_keyiterator.__iter__") av H 9e8 av
def args_self(a:af):kJ "bytearray_iterator.__iter__" (61 [a]):=by
 unfold kJ;rw[315 "bytearray_iterator.__iter__" ['_','_','r','e','t','i','_','_'] ['r','o','t','a','r','e','t','i','_','y','a','r','r','a','e','t','y','b'] PK];kernel_rfl
universe e BA
section
variable{bc:gT}{w:eB}{A:dg}{E:af->ae->Prop}{s:ae}
def act(l:A.e9=L)(apy a:aI)(m:a≠apy)(b:D be):
  J2 bc w A apy [apy,a] [apy] b.U (λi v=>∃c t,b[i]? =G c/\v= .y c.aJ t) (λi h=>nA h apy a i/\h.ao a=G (fj b))where
 a2:=λb u=>by simp at u;simp[u]
 ec:=(PY (bc:=bc) (w:=w) l apy a m b).ec
 item:=λi s Q E k F r=>by
  unfold oD;show bg (tm (PR F.1 F.2 (c:=b[i]) (by simp[k]) λh' d n=>bX (r _ h' _ ⟨b[i],_,by simp[k],H⟩ ⟨d,(n.2 a m).aV F.2⟩ λc o x e=>n.mu c o (λq=>x (by exact D.cZ.bn q)) e)))
 done:=λs Q E F r=>by
  unfold oD;show cL (tm (PS l F.1 F.2 (by simp) λh' e f j app=>?_));(show aN j λo z x=>?_;try clear j);show cL (oC (apq:= "StopIteration") (b:=true) ⟨o,z,x⟩ P1 λapp=>?_);exact bX (r h' s.a1 λc o x e=>f c o (λq=>x (by exact D.cZ.bn q)) e)
 oF:=λi s Q E F r=>by
  have p:=F.1.mY;show PQ p BA.P0 (ny BA.P0 p BA.entry_self ?_ (BA.args_self _));refine aY _ _ (bk (.N apy)) _ _ s;exact bX ⟨_,H, "bytearray_iterator",_,p,BA.u3.bY,r⟩
def acu{a:aI}{Q:28e9}(r:47e6)(h:Q false s):41 (Builtin.D.AF 2e2):=by
 unfold Builtin.D.AF;show cL (iR r BA.JD.bY λx=>?_);generalize p:("bytearray.__len__" :fH)=J3;wp_delta;rw[show splitId J3=G ("bytearray", "__len__")from by subst p;decide+ci];subst p;show cL (oC (apq:= "bytearray") (b:=true) r 30e7 λx=>?_);show AG (λe=>bL e aq) (λx=>?_);show AG (λx=>?_) (λe=>bL 9e8 e);show cL (ti r λx=>?_);exact 22e2
def acv{b:bP be}{t:Tok}{Q:28e9}(h:Q false s):41 (Builtin.D.AF (.iS b t)):=by
 have a:=pq s b t;unfold Builtin.D.AF;show cL (iR a FB.slot_bytes_len.bY λx=>?_);generalize r:("bytes.__len__" :fH)=J3;wp_delta;rw[show splitId J3=G ("bytes", "__len__")from by subst r;decide+ci];subst r;show cL (oC (apq:= "bytes") (b:=true) a 30e7 λx=>?_);show AG (λe=>bL e aq) (λx=>?_);show AG (λx=>?_) (λe=>bL 9e8 e);show cL (ti a λx=>?_);exact 22e2
def P2{R:43e9}{apq:fH}{r res:af}{S:aI}{j n:I}{fp:11e9}{P:I->af->Prop}{St:I->ai->Prop}{oI:aA}(z:s.kK r apq)(nl:(af.aB apq==51e4)=false)(t:(af.aB apq==af.aB "tuple")=false)
  (acw:Builtin.D.P5 (.N S) r=false) (hint:∀(E:0e5) (Q:28e9),Q false (281 oI)->273 w A.fh (Builtin.D.AF r) Q E (281 oI))
  (lO:∀(E:0e5) (Q:0e5),Q 9e9 (281 oI)->aY (bh bc w) A.fh (qv r) Q E s)
  (W:J2 bc w A.fh s.M.O.an fp 39e7 n P St) (fo:St 0 (s.M.b6 oI)) (hSf:S∉fp) (hS:s.M.ao S=G (328 #[] j))
  (apY:∀h' tk m p,(∀b o,b≠S->8e8=0e4->11e8=0e4)->h'.ao S=G {bj:= 19e6,bw:=L,bf:= .cH m p,nC:= #[]}->xe P m n->333 res (84 h' tk)) (hn:n<=P6):
  aY 6e2 A.fh (Builtin.D.vb (.N S) r res)
   (λeg s'=>match eg with| .kz f=>219 f s'| .mi p=>p.sT=true/\uY 6e2 A p R s') (14e7) s:=by
 have g:S≠s.M.O.an:=299 hS;unfold Builtin.D.vb;show cL (ti z λa=>?_);simp only[acw,nl,t,al.mr,al.zL,zM];show bg (lO _ _ (bg (nB (hint _ _ ?_))));have k:=ai.er oI hS;have cR:∀(h:ai) (v tk:I),St 0 h->(∀b o,b≠S->8e8=0e4->h.ao b=0e4)->
   h.ao S=G (328 #[] v)->uY 6e2 A (.bJ "list.extend.loop" (61 [.N S,9e9,res])) R (84 h tk):=by
  intro h v tk fo d k;show codeAny_extend_loopS W.toS hn S hSf res n 0 _ #[] v H 31e7 fo k (xe.aR _) λs' m p hm c l=>?_;rw[Moved.eq_with hm];show apY s'.M s'.a1 m p (λb o x e=>hm.M b o (λq=>?_) (d b o x e)) c l;rcases D.eS.mp q with q|q
  ·exact x q
  ·exact bL 9e1 (419 52e7)
 show AG (λa=>?_) (λa=>bX ⟨Aw PySem.apu.acx _,cR _ j _ fo (λb o a e=>33e0) k⟩);show cL (nz λa=>?_);show 23e7;refine aY _ _ (P7 S (·.b6 .L)>>=λa=>P7 S (·.pop)) _ _ _;show cL (AH k H λa=>?_);have i:=ai.kC (aA.py (·.b6 af.L)) k H;show AH (hz:=by seq_fits) i H ?_;have app:=ai.kC (aA.py (·.pop)) i H;show bX ⟨Aw PySem.apu.acx _,cR _ _ _ (W.ec 0 _ _ fo λb x o e=>?_) (λb o x e=>?_) app⟩
 ·have u:b≠S:=λh=>hSf (h▸x);exact(ai.AI _ _ (Ne.bi u)).aV ((ai.AI _ _ (Ne.bi u)).aV e)
 ·exact(ai.AI _ _ (Ne.bi x)).aV ((ai.AI _ _ (Ne.bi x)).aV 33e0)
def P8{apq:fH}{r:af}{n:I}{P:I->af->Prop}{Q:0e5}
  (cR:∀(s1:ae) (R:43e9) (c:I),(∀b o,8e8=0e4->s1.M.ao b=0e4)->s1.M.ao s.M.O.an=G (328 #[] c)->
   (∀h' tk x h,(∀b o,b≠s.M.O.an->s1.M.ao b=0e4->11e8=0e4)->47e2=G {bj:= 19e6,bw:=L,bf:= .cH x h,nC:= #[]}->xe P x n->333 .L (375 h' tk))->
   273 w A.fh.fh (Builtin.D.vb 9e9 r .L) (λeg s'=>match eg with| .kz f=>219 f s'| .mi h=>h.sT=true/\uY 6e2 A.fh h R s') 14e7 s1)
  (hQ:∀h' tk x h,(∀b o,8e8=0e4->11e8=0e4)->47e2=G {bj:= 19e6,bw:=L,bf:= .cH x h,nC:= #[]}->xe P x n->157 9e9 tk):
  41 (aX 19e6 [r]):=by
 show acy (Q₁:=λZ k=>Z= 9e9/\k={s with M:=210 19e6 (.cH #[])}) PySem.apu.called_list (PySem.apu.typeCall_list_1 _) PySem.apu.entry_list_init
  (code_list_new _ 15e2) λZ k v=>?_
 (show oA v λu l=>?_;try clear v;subst u;subst l);have p:(210 19e6 (.cH #[])).ao s.M.O.an=G (309 #[]):=10e0;show⟨(51 p),PySem.apu.args_list_init_2 _ _,?_⟩;refine aY _ _ (do let h7<-Builtin.D.P9 9e9;Builtin.D.listUpdate (9e9) (λa=> #[]);letGo h7.gi.et;Builtin.D.vb (9e9) r .L) _ _ _;show 23e7;unfold Builtin.D.P9;show bg (AJ p H 20e3);refine aY _ _ (P7 s.M.O.an (λa=> #[])>>=λa=>letGo (#[]:16e5).gi.et>>=λa=>Builtin.D.vb 9e9 r .L) _ _ _;show cL (AH p H λa=>?_);have i:=ai.kC (aA.py (λa=>(#[]:16e5))) p H;have m:∀b o,8e8=0e4->((210 19e6 (.cH #[])).eN s.M.O.an (aA.py (λa=>(#[]:16e5)))).ao b=0e4:=
  λb o e=>(ai.AI _ _ (I.vc 9e1)).aV 33e0
 show bg (PU (cR _ _ _ m i λh' tk x h d j q=>?_));exact⟨H,hQ h' tk x h (λb o e=>d b o 41e9 (m b o e)) j q⟩
def list_bytes{b:bP be}{t:Tok}{Q:0e5}(p:A.e9=L)(r:106 b.an)
  (hQ:∀h' tk a m,(∀b o,8e8=0e4->11e8=0e4)->47e2=G {bj:= 19e6,bw:=L,bf:= .cH a m,nC:= #[]}->xe (λi v=>∃c u,b[i]? =G c/\v= .y (c.aJ:K) u) a b.an->157 9e9 tk):
  41 (aX 19e6 [.iS b t]):=
 P8 (apq:= "bytes") (λs1 R q k e n=>P2 (apq:= "bytes") (fp:=[s1.M.O.an]) (oI:=(330 "bytes_iterator" #[.iS b t,1e4])) (pq s1 b t) aq aq H (λx x h=>acv h) (λx x h=>KBw.pyIter_bytes h) (KBw.walks (A:=A.fh.fh) p _ b t) (by exact⟨_,10e0,H,H⟩)
  (by simp only[D.cZ];exact 41e9) e n (by rw[f3];exact r)) hQ
def acz{a:aI}{b:4e9}{Q:0e5}(u:A.e9=L)(n:4e4=15e1)(q:106 b.U)
  (hQ:∀h' tk m j,(∀b o,8e8=0e4->11e8=0e4)->47e2=G {bj:= 19e6,bw:=L,bf:= .cH m j,nC:= #[]}->xe (λi v=>∃c t,b[i]? =G c/\v= .y c.aJ t) m b.U->157 9e9 tk):
  41 (aX 19e6 [2e2]):=by
 have r:a≠s.M.O.an:=299 n;show P8 (apq:= "bytearray") (λs1 R f k p d=>?_) hQ;have x:=k a _ n;have l:s1.kK 2e2 "bytearray" :=(51 x);show P2 (apq:= "bytearray") (fp:=[s1.M.O.an,a]) (oI:=(337 41e2 #[2e2,1e4])) l aq aq (by simp[Builtin.D.P5];exact Ne.bi r) (λe e h=>acu ⟨_,117 x,H⟩ h) (λe e h=>PN x h)
  (act (A:=A.fh.fh) u _ a (299 x) b) (by exact⟨⟨_,10e0,H,H⟩,117 x⟩) ?_ p d (by rw[f3];exact q)
 simp only[D.eS,D.mq,mr,Qa];exact⟨299 p,Ne.bi r⟩
universe e
universe e
section
open PySem PySem.W PyProof.Rows PySem.Spec PySem.SeqAt PySem.Calls
open Builtin hiding id
set_option backward.match.sparseCases false
section
variable{bc:gT}{w:eB}{A:dg}{E:af->ae->Prop}{s:ae}
def acA(h:tr vs ns):∀{i:I} {v:af},vs[i]? =2e4->∃t,v= .y ((ns[i]?).ge 0) t:=by
 induction h with
 |aR=>exact λe=>by simp at e
 |aQ n t h s=>
  intro i v e;cases i with
  |i5=>cases e;exact⟨t,H⟩
  |hI i=>exact s (i:=i) e
def acB(ns:D K)(k:I):Qb (λi=>(ns[i]?).ge 0) k=(ns.fI k).lh:=by
 induction k with
 |i5=>exact preSum_getD ns 0
 |hI k s=>
  rw[Qb,s,D.take_add_one,D.sum_append];cases ns[k]? <;>simp
def sum_list{Q:0e5}(q:A.e9=L)(h:152 a aP)(r:tr aP ns)
  (hQ:∀h' tk t',(∀b o,8e8=0e4->11e8=0e4)->157 (.y ns.lh t') tk):41 (261 "sum" [2e2]):=by
 have p:a<s.M.O.an:=by(show aN h λo e u=>?_;try clear h);exact 9e1
 show call_sum_walkAnyS (AK h ?_);show⟨s.M.O.an,_,_,_,_,_,_,λi=>(ns[i]?).ge 0,H,(J2.az (A:=A.fh) q s.M.O.an a (I.iq p) 32e3).toS,⟨⟨_,10e0,H,H⟩,h.at λo e=>33e0⟩,λb x=>?_,λi v n=>acA r (by simpa using n),λs' t' hm=>?_⟩
 ·refine b<(s.M.b6 _).O.an;rw[ai.iO];rcases D.eS.mp x with e|x
  ·rw[e];exact 40e5
  ·rw[D.cZ.mp x];exact I.Qc p
 ·have e:Qb (λi=>(ns[i]?).ge 0) (189 aP)=ns.lh:=by
   rw[acB];have:(189 aP)=ns.U:=r.U;rw[bb,D.take_length]
  rw[e,Moved.eq_with hm];exact hQ s'.M s'.a1 t' λb o k=>hm.M b o (λm=>bL (ai.cQ k) (419 (D.cZ.mp m))) (117 k)
def acC{bK:D (K×af)}:∀{vs:2e5},vs.U=bK.U->(∀(i:I) v,vs[i]? =2e4->∃k x,bK[i]? =G (k,x)/\(oG bc w).is k v=true)->tr vs (bK.aj (·.1)):=by
 induction bK with
 |aR=>intro vs s _;rw[D.J4.mp s];exact .aR
 |aQ p r ih=>
  intro vs s h;cases vs with
  |aR=>cases s
  |aQ v vs=>
   show gd (h 0 v H) λk x e a=>?_;cases e;(show oE (af.isInt_shape a) λt b=>?_;subst b);exact .aQ _ _ (ih (I.hI.cF s) λi v m=>h (i+1) v m)
def acD{d:aI}{bK:D (K×af)}{ep:I}{Q:0e5}(z:A.e9=L)(j:s.M.nE (oG bc w) d bK ep)(lo:(d==tu)=false)(l:bK.U<64)
  (hQ:∀h' tk apr bI lj,(∀b o,8e8=0e4->11e8=0e4)->h'.ka apr bI->s.M.ao apr=L->tr bI.gi lj->lj.qx (bK.aj (·.1))->lj.vd (· <= ·)->157 43e4 tk):
  41 (261 "sorted" [.N d]):=by
 show call_function_entry kind_sorted plain_sorted entry_sorted (args_sorted1 _) ?_;unfold Builtin.«sorted»;show cL (m:=checkCount "sorted" 1 1 _) (bX λn=>?_);show cL (kdu_collect (A:=A.fh) (kdl_dict (gZ:=oG bc w) (bK:=bK) (ep:=ep) lo) z j (by rw[f3];lia) λh' tk cP r a n=>?_);have x:cP.gi.U=bK.U:=by rw[bP.J5];exact a.1
 have k:tr cP.gi (bK.aj (·.1)):=acC x λi v c=>a.2 i v (by rw[<-bP.Qd];exact c);show bg (J6 ?_ (by rw[x,f3];lia));have h:(h'.b6 (309 cP.gi.gG)).ao h'.O.an=G (seqObj "list" cP.gi.gG 0):=10e0;have app:s.M.ao h'.O.an=L:=by
  cases q:s.M.ao h'.O.an with
  |L=>rfl
  |G o=>exact 293 (ai.cQ (r _ _ q))
 show bg (nB (ny slot_list_sort (51 h) entry_list_sort (list_sort_tree h k (by rw[x];exact l) λbI lj f u a3=>⟨_,H,?_⟩) (args_list_sort _)));show bX ⟨_,H,?_⟩;show oE (sortedHeap_at (bI:=bI) h) λe p=>?_;show hQ _ tk h'.O.an bI lj (λb o t=>?_) ⟨e,p⟩ app f u a3
 ·have h1:=r b o t;rw[sortedHeap_old (299 h1) (by rw[ai.iO];exact I.Qc (ai.cQ h1))];exact 117 h1
universe e
set_option backward.match.sparseCases true
def ip.acE:po (.aB "int") "__bytes__" =b9 L:=by rw[kG,kH];kernel_rfl
section
variable{bc:gT}{w:eB}{A:dg}{E:af->ae->Prop}{s:ae}
def acF{b:bP be}{tk:Tok}{id:fH}{Q:ar (bP be×12e4)->ae->Prop}(h:Q (G (b,L)) s):41 (dH.acG id (.iS b tk) 0):=by
 have x:=pq s b tk;unfold dH.acG dH.takeBuffer?;show bg (tm ?_);show bg (iR x ip.tl.bY ?_);unfold dH.JQ;show 169 (iR x ip.tl.bY ?_);try dsimp only
 rw[PE,PF,d6 aq];show oC x ip.jl ?_;show 35e2 <|?_;show cL (iR x ip.tl.bY λe=>?_);exact bg (PG (bX 22e2))
def acH{a:aI}{b m:4e9}{tk:Tok}{Q:0e5}(i:A.j7=G [])(p:4e4=15e1)(hz:b.U+m.U<=16777216)
  (h:∀h',18e4=282 (b++m)->168 a h'->158 .L):134 A (261 "bytearray.extend" [2e2,.iS ⟨m⟩ tk]) Q E s:=by
 have n:47e6 :=(51 p);have u:=pq s ⟨m⟩ tk;show rh (JL BA.JG.tj 9e8 BA.abF (BA.JG.check _ _ _ _ _ _ _ _ n (BA.abL _ _) ?_));unfold Builtin.«bytearray.extend»;show ff (323 (af.N a,af.iS ⟨m⟩ tk));show ff (iR u ip.tl.bY λx=>?_);show wy cI <|?_;show ff (nz λx=>?_);show ff (uV p λx=>?_);show ff (acF λx=>?_);show wy cI <|?_;have wr:aY (bh bc w) A.fh (do dH.uW (2e2) (· ++(bP.mk m));bk .L) (λeg s'=>match eg with| .kz f=>(match(Except.Y f:mf)with| .Y (.bk v)=>Q v s'| .Y _=>fT| .dJ e=>E e s')| .mi k=>k.sT=true/\96 A k (413 v (E e s')) s') E s:=
  bg (w6 p (by simp;lia) λh' q s'=>bX (h h' (by simpa using q) s'))
 refine aM _ _ (do
  if !(bP.mk m).jN then dH.JJ 2e2
  dH.uW (2e2) (· ++(bP.mk m))
  bk .L) _ _ _
 split
 ·exact aZ (Px i p (aM.of wr))
 ·exact aM.of wr
def acI{Q:0e5}(h0:0<=n)(hz:106 n)(b:∀t k,Q (.iS (bP.gj n.aJ 0) t) 24e6):41 (aX 27e0 [.y n tk]):=by
 show acy (Q₁:=λZ x=>x.kK Z "bytes" /\Q Z x) PySem.apu.Qe (PySem.apu.bm_typeCall _) PySem.apu.entry_object_init ?_ λZ x e=>?_
 ·show ab5 ?_;refine aY _ A.fh.fh (do w7 "bytes.__new__" (61 [27e0,.y n tk]);mi (.bJ "bytes.__new__" (61 [27e0,.y n tk]))) _ _ s;show bg (gu (PySem.apu.bm_newCall _) (bX ⟨Aw PySem.apu.bm_plain _,codeAny_builtin PySem.apu.bm_entry ?_⟩));rw[dg.Py PySem.apu.bm_plain _];unfold Builtin.«bytes.__new__»;show cL (369 true H);show 35e2 <|?_;show cL (398 PySem.apu.bm_sub);show 35e2 <|?_;show cL (398 (PySem.apu.bm_bind _));show cL (369 () H);show cL (369 () H);show 35e2 <|?_;show cL (iR (Az _ n tk) ip.acE λh=>?_);show cL (369 false H);show 35e2 <|?_;show cL (iR (Az _ n tk) apu.PH.bY λh=>?_);show 35e2 <|?_;show cL (tm (369 n H));show sR (by simp only[dH.fitsIndex,al.w8,al.acf,al.lg,mX];lia) λh h=>k8 (by exact K.AA h0) <| sR bN λh h=>sR (by simp only[dH.tooLong,mX,f3];lia) λh h=>?_;show cL (nz λh=>?_);show bg (wpAny_mkBytes ?_ (by rw[bP.size_replicate,f3];exact K.qy.bn hz));exact bX ⟨pq _ _ _,b _ _⟩
 ·exact⟨e.1,PySem.apu.acm Z _,object_init_meets PySem.apu.Qe.jK.bY PySem.apu.Qe.made aq bc w A.fh _ x ⟨e.1,H,e.2⟩⟩
universe e
universe e
section
open PySem PySem.W PyProof.Rows PySem.Spec PySem.SeqAt
open Builtin hiding id
set_option backward.match.sparseCases false
section
variable{bc:gT}{w:eB}{A:dg}{E:af->ae->Prop}{s:ae}
def acJ{Q:0e5}(r:A.e9=L)
  (eu:xf s.M it t i) (ht:jm s.M t aP) (hx:aP[i]? =L)
  (hE:∀h' e,ai.u7 it s.M h'->(∃o,42e7=0e4/\o.bj= 44e4)->E 9e6 35e9):41 (pr.tq 32e7):=by
 unfold pr.tq;show dU (id eu) λo b v hd=>?_;(show gF ht λn p h nl k=>?_;try clear ht);show bg (389 eu.mY acK
  (ny acK eu.mY entry_tupleiter_next ?_ (args_tupleiter_next _)))
 refine aY _ _ (ro 32e7 0>>=_) _ _ s;show cL (hH b hd (x:= .N t) H λh=>?_);refine aY _ _ (if(af.N t==af.L)=true then _ else _) _ _ s;show k8 (412 ((af.N t==af.L)=true)) <|?_;refine aY _ _ (ro 32e7 1>>=_) _ _ s;show cL (hH b hd (x:= 3 i) H λh=>?_);refine aY _ _ (seqItems? (.N t)>>=_) _ _ s;show cL (AJ p k λh=>?_);simp only[K.tp,hx];show bg (nz (bg (u6 b hd (by exact aci H) ?_)));refine aY _ _ (JR 44e4 []>>=_) _ _ _;show 23e7;dsimp-fu only[JR,newTuple];show bg 51e1;show cL (m:=JU _ _) (369 af.L (by first|rfl|(dsimp-fu only[JU];rfl)));show 51e1;dsimp-fu only[JV];show cL (PV λh=>?_);first|rw[show A.fh.e9=L from r]|rw[r]
 show bg (bX (wpAny_throw ?_));exact hE _ _ (((ai.fA.eN ..).mu.b6 _).b6 _) ⟨_,10e0,H⟩
def acL{Q:138 kB}(P:A.e9=L)(q:i1≠z)(i:t≠z)
  (hz:tv s.M z TI TO .L) (AL:jm s.M TI #[.N i1,v2])
  (h1:xf s.M i1 t 0) (ht:jm s.M t #[])
  (hE:∀h' e,(∀c o,c≠z->c≠i1->37e0=0e4->h'.ao c=0e4)->(∃o,42e7=0e4/\o.bj= 44e4)->E 9e6 35e9):
  41 (Builtin.«zip.__next__» (61 [.N z])):=by
 refine aY _ _ (ro (.N z) 2>>=_) _ _ _;show cL (hH hz H (x:= 33e5) H λh=>?_);refine aY _ _ (ro (.N z) 3>>=_) _ _ _;show cL (hH hz H (x:= .N TI) H λh=>?_);(show gF AL λS f h apq d=>?_;try clear AL);show cL (AJ f d λh=>?_);refine aY _ _ (Builtin.pr.acM (.N z)>>=_) _ _ _;show 23e7;unfold Builtin.pr.acM;show bg (hH hz H (x:= .L) H 20e3);dsimp-fu only[wE];show cL (nz λh=>?_);show cL (hH hz H (x:= .N TO) H λh=>?_);show cL (acN hz (by simp-fu) λj a p h=>?_);replace a:tv j z TI TO .ellipsis:=a;clear hz;show 23e7;dsimp-fu only[D.zipIdx_cons,D.zipIdx_nil,D.AM,D.forIn_nil];show 169 (acO ?_);refine aY _ _ (Builtin.pr.tq (.N i1)>>=_) _ _ _;show bg (acJ P ((by(show aN h1 λo e r=>?_;try clear h1);exact⟨o,p.mu _ _ q e,r⟩)) (ht.mu p.mu i) (by simp-fu) λg e m n=>?_);(show aN n λapp b k=>?_;try clear n);have v:tv g z TI TO .ellipsis:=m _ _ q.bi a;clear a;have l:e≠z:=λx=>by subst x;rw[v]at b;cases b;simp-fu at k
 show acN v (by simp-fu) λR h u=>hE R e (λc o c1 c3 x=>u.mu _ _ c1 (m _ _ c3 (p.mu _ _ c1 x))) ⟨app,u.mu _ _ l b,k⟩
def acP{Q:12e4->ae->Prop}(n:A.e9=L)(k:i1≠z)(r:t≠z)
  (hz:tv s.M z TI TO .L) (AL:jm s.M TI #[.N i1,v2]) (h1:xf s.M i1 t 0) (ht:jm s.M t #[])
  (hQ:∀h',(∀c o,c≠z->c≠i1->37e0=0e4->h'.ao c=0e4)->158 L):41 (oD (.N z)):=by
 have x:s.kK (.N z) "zip" :=(51 hz);unfold oD;show bg (tm (389 x apu.acQ
  (ny apu.acQ x apu.entry_zip_next (acL n k r hz AL h1 ht λh' e p h=>?_) (apu.args_zip_next_1 _))))
 (show aN h λo m a=>?_;try clear h);show cL (oC (apq:= "StopIteration") (b:=true) ⟨o,m,a⟩ P1 λv=>?_);exact bX (hQ _ p)
universe e
abbrev J7(h:ai)(s:aI):ai:=h.b6 (330 "tuple_iterator" #[.N s,1e4])
abbrev AO(h:ai)(s x:aI):ai:=(J7 h s).b6 (330 "list_iterator" #[.N x,1e4])
abbrev J8(h:ai)(s x:aI):ai:=(AO h s x).b6 (308 #[.N h.O.an,.N (J7 h s).O.an])
abbrev AP(h:ai)(s x:aI):ai:=(J8 h s x).b6 (308 #[.L,.L])
abbrev xh(h:ai)(s x:aI):ai:=(AP h s x).b6 (337 45e4 #[.L,33e5,33e5,.N (AO h s x).O.an,.N (J8 h s x).O.an])
def acR(x e:aI)(xs a:16e5):
  Meets (Builtin.«zip.__new__» (61 [45e4,.N x,9e6])) (λn R s=>jm s.M x xs/\s.M.gY e a/\
   333 (.N (AP s.M x e).O.an) {s with M:=xh s.M x e}):=
 .of_wp λbc w A R s h=>by
  obtain(⟨b,g,d,tk,os⟩):=s;obtain⟨r,m,h⟩:=h;have v:=sub_zip;have p:jm (ae.M ⟨b,g,d,tk,os⟩) x xs:=r;have k:ai.gY (ae.M ⟨b.b6 (330 "tuple_iterator" #[.N x,1e4]),g,d,tk,os⟩) e a:=ai.gY.b6 m _;wp_walk using iter_tuple p,AK k;exact⟨_,H,h⟩
section
variable{bc:gT}{w:eB}{A:dg}{E:af->ae->Prop}{s:ae}
def acS{Q:0e5}(k:jm s.M l1 xs)(n:s.M.gY l2 apZ)
  (h:∀h',tv h' (181 4) (181 2) (181 3) .L->IsPair h' (181 2) 9e9 24e0->
   xf h' s.M.O.an l1 0->h'.O.an=s.M.O.an+5->
   (∀c o,37e0=0e4->h'.ao c=0e4)->158 (.N (181 4))):
  41 (aX 45e4 [.N l1,.N l2]):=by
 show acl apu.called_zip aq (apu.typeCall_zip_2 _ _) (apu.newCall_zip_2 _ _) (λZ=>apu.args_object_init_3 Z _ _) apu.entry_zip_new
  (acR l1 l2 xs apZ) ⟨k,n,?_⟩
 have r:(J7 s.M l1).O.an=s.M.O.an+1:=ai.iO ..;have a:(AO s.M l1 l2).O.an=s.M.O.an+2:=by rw[ai.iO,r]
 have p:(J8 s.M l1 l2).O.an=s.M.O.an+3:=by rw[ai.iO,a]
 have b:(AP s.M l1 l2).O.an=s.M.O.an+4:=by rw[ai.iO,p]
 have m:(xh s.M l1 l2).O.an=s.M.O.an+5:=by rw[ai.iO,b]
 have e:(xh s.M l1 l2).ao (AP s.M l1 l2).O.an=G _:=10e0;have g3:(xh s.M l1 l2).ao (AO s.M l1 l2).O.an=G _:=300 10e0;have g1:(xh s.M l1 l2).ao s.M.O.an=G _:=300 (300 10e0);refine _/\_;rw[a,p,b]at e;rw[r,a]at g3;rw[b];exact⟨(51 e),h _ e g3 ⟨_,g1,H,H⟩ m λc o x=>
  ai.er _ (300 (300 x))⟩
universe e
universe e
section
open PySem PySem.W PyProof.Rows
set_option backward.match.sparseCases false
set_option genCtorIdx true in
inductive V where
 |aa (v:af)
 |bp (b:al) (t:al)
 |y (i:K) (t:al)
 |ag (s:am)
 |ch (b:D be)
 |X (l:D V)
 |ad (l:D V) (t:al)
 |ei (b:D be)
 |Z (i:I)
set_option genCtorIdx true in
inductive aps where
 |az (l:D V) (t:al)
 |au (l:D V)
 |bw (l:D (V×V))
 |bv (C:aI) (d:D (I×V))
 |eG (b:D be)
 |cW (k:V) (i:V)
 |a8 (C:aI) (d:D (I×V))
inductive Tg where
 |n (k:I)
 |t (l:D I)
set_option genCtorIdx true in
inductive apw where
 |c (v:V)
 |l (n:I)
 |eV (n:I)
 |oH (n:I)
 |g (n:I)
 |eZ (e:apw) (n:I)
 |a2 (e i:apw)
 |kL (e:apw) (lo hi:D apw)
 |a7 (op:rJ) (a b:apw)
 |pz (e:apw)
 |g5 (e:apw)
 |ll (l:D apw)
 |i7 (l:D apw)
 |bU (a:apw) (o:D jn) (l:D apw)
 |fg (c a b:apw)
 |X (l:D apw)
 |ad (l:D apw)
 |oJ (k v:D apw)
 |iF (pv:apw) (tg:Tg) (it:apw) (j9:D apw)
 |aX (f:apw) (as:D apw)
 |bl (o:apw) (n:I) (as:D apw)
 |lam
 |d3 (e:apw)
set_option genCtorIdx true in
inductive apq where
 |n (k:I)
 |a (o:apw) (n:I)
 |s (o i:apw)
 |sl (o:apw) (lo hi:ar apw)
 |t (l:D apq)
set_option genCtorIdx true in
inductive S where
 |bz (t:apq) (e:apw)
 |ex (e:apw)
 |bk (e:ar apw)
 |bD (c:apw) (a b:D S)
 |lQ (c:apw) (b:D S)
 |mw (t:Tg) (i:apw) (b:D S)
 |kM (e:apw)
 |AQ (b:D S) (hs:D (apw×ar I×D S))
 |xi (b f:D S)
 |AR
structure Fn where
 ps:D I
 ds:D apw
 cX:D S
universe e
section
open PySem PySem.W
set_option backward.match.sparseCases false
def ap0:am:= "~no operation on two numbers"
def Z1:am:= "~octets"
def Z2:am:= "~tables"
def Z3:am:= "~cells"
def Z4:am:= "~limits"
def Z5:am:= "~elems"
def Z6:am:= "~datas"
def Z7:am:= "~noted"
def Z8:am:= "~steps"
def Z9:am:= "~end"
def tw:am:= "~far"
def cM:am:= "~out of bounds memory access"
def c5:am:= "~out of bounds table access"
def Qf:am:=⟨#[]⟩
def kb:am:= "~exhausted"
def h9:am:= "~call stack"
def xj:am:= "~undefined element"
def xk:am:= "~uninitialized element"
def xm:am:= "~indirect call type mismatch"
def ln:am:= "~done"
def rK:am:= "~trap"
def Z21:am:= "~more pages than are let"
def Z22:am:= "~more elements than are let"
def Z23:am:= "~results of another kind"
def Z24:am:= "~the call is through"
def Z25:am:= "~unreachable"
def Z26:am:= "~fuel"
abbrev apw.i(n:K):apw:= .c (0 n)
abbrev apw.z:apw:= .c 0e6
abbrev apw.s(z:am):apw:= .c 7e8
abbrev apw.k(n:I)(l:23e6):apw:= 170 n l
abbrev apw.e(a b:apw):apw:= 63 a .Eq [b]
abbrev apw.w(a b:apw):apw:= 63 a .gL [b]
abbrev apw.a(n m:I):apw:= .eZ (.l n) m
abbrev S.v(n:I)(x:apw):S:= .bz (.n n) x
abbrev S.r(x:apw):S:= .bk (G x)
def f84:Fn:=(4 [0,1] [.r (35 .xn 0 (80 .jo (165 .pA 3e5 1) 1))])
def f91:Fn:=(4 [0,1] [.r (.fg (35 .xo 0 (35 .jo 1 (.i 1))) (35 .jo 0 (165 .pA 3e5 1)) (.l 0))])
def acT:Fn:=(4 [0,2,1] [196 3 [.k 4 [.k 3 [.l 0,.l 2],.l 2],.l 1]])
def acU:Fn:=(4 [0,5,1] [196 3 [95 0 5,.l 1]])
def acV:Fn:=(4 [6,7,8,9] [60 7 [.lp,.Lt] [17e0,95 7 9] [278 [35 .jo 6 (.l 7),21e6]] [],60 8 [.lp,.Lt] [17e0,95 8 9] [278 [35 .jo 6 (.l 8),16e7]] [],.r (.z)])
def acW:Fn:=(4 [6] [99 (.g 11) [.lp,.Lt] [17e0,.g 10] [278 [.a7 .pA (.i 8) (35 .jo 6 (.g 11)),21e6]],99 (.g 10) [.lp,.Lt] [17e0,80 .dw (.g 10) 3] [278 [.a7 .pA (.i 8) (35 .jo 6 (.g 10)),16e7]],.r (.fg (180 6 (.g 12)) (.X [21e6,16e7]) (.z))])
def acX:Fn:=(4 [6] [60 6 [.In] [.X [.g 13,.g 14,.g 15,.g 16]] [.r (.c 46e9)] [],.r (.i7 [63 (.k 17 [17e0,.g 18,.g 19,194 (.g 21)]) .oK [.z],63 (.k 22 [17e0]) .oK [.z]])])
def acY:Fn:=(4 [6,0,5] [.v 23 (.k 17 [17e0,.g 24,.g 25,194 (.g 26)]),60 23 [.oK] [.z] [.r (.aX (.a2 (.g 26) (65 23 0)) [.l 0,.l 5,65 23 1])] [],.v 23 (.k 17 [17e0,.g 27,.g 28,194 (.g 29)]),60 23 [.Is] [.z] [248 30 [.s ap0]] [],.r (.aX (.a2 (.g 29) (65 23 0)) [.l 0,.l 5,65 23 1])])
def acZ:Fn:=(4 [31] [.r (112 31 .In [.g 32])])
def ac0:Fn:=(4 [31] [.r (.fg (180 31 (.g 33)) 21e6 16e7)])
def ac1:Fn:=(4 [31] [.r (.fg (.k 34 [.l 31]) (.z) 2e3)])
def ac2:Fn:=(4 [6] [.r (112 6 .In [.X [.g 35,.g 36,.g 37]])])
def Qg:Fn:=(4 [38] [129 [.n 39,.n 40,.n 41] [.oJ [] [],.oJ [] [],49e2],.mw (.t [42,43]) (.k 44 [.l 38]) [38e6,.bD (.k 45 [17e0]) [222 41 46 [5e9]] [.bD (180 6 (.g 47)) [143 (.l 40) (115 41 36e6) 5e9] [250 (.ll [180 6 (.g 48),.w (.l 41) 25e0]) [.v 49 (.bl (.l 41) 50 []),143 (.l 39) 29e7 5e9,60 49 [.In] [.l 40] [143 (.l 39) (115 40 29e7) 5e9] []]]]],278 [.l 39,.l 40]])
def ac3:Fn:=(4 [51] [.v 23 2e3,.mw (.t [52,53]) (.k 44 [.l 51]) [.v 23 (35 .BitOr 23 (35 .pA 53 (224 (.i 8) 52)))],.r (.l 23)])
def ac4:Fn:=(4 [54,55] [196 56 [.iF (80 .xn (.a7 .xo (.oH 54) (224 (.i 8) 52)) 255) (.n 52) (.k 57 [.l 55]) []]])
def ac5:Fn:=(4 [42,9,55,58] [334 [63 5e9 .Lt [2e3],112 9 .Lt [2e3],63 (95 42 9) .Gt [.l 55]] [248 59 [35e3]]])
def ac6:Fn:=(4 [31,60] [250 (.ll [.k 34 [.l 31],112 60 .Is [.z]]) [.r (.c 46e9)],334 [.pz (.k 61 [.l 60,.g 62]),.k 61 [.l 60,.g 63],112 60 .Lt [2e3]] [45e9],.r (.i7 [.k 34 [.l 31],.ll [112 31 .In [.X [.g 33,.g 64]],112 60 .Lt [.a7 .pA 3e5 (.k 65 [.l 31])]]])])
def ac7:Fn:=(4 [66,67] [250 (.w (195 66) (195 67)) [45e9],196 68 [.iF (.k 69 [.l 31,.l 60]) (.t [31,60]) (.k 70 [.l 66,.l 67]) []]])
def ac8:Fn:=(4 [55,71,72,73] [.v 23 (95 55 71),334 [112 71 .Lt [2e3],112 23 .Gt [.l 73],.ll [112 72 .oK [.z],112 23 .Gt [.l 72]]] [.r (.z)],.r (.l 23)])
def ac9:Fn:=(4 [] [270 [.X [5e7,5e7],.X [.X [36e6],5e7],.X [.X [.g5 4e7],5e7],.X [.X [.g5 16e6],5e7],.X [.X [.g5 (.i 17)],5e7],.X [.X [36e6,.g5 4e7],.X [.g5 4e7]]]])
def ada:Fn:=(4 [] [.v 74 (.oJ [.i 40,.i 41,.i 44,.i 45,.i 46,.i 47] [.X [17e9,2e3,21e6],.X [.i 8,2e3,16e7],.X [3e5,3e5,21e6],.X [3e5,2e3,21e6],.X [4e7,3e5,21e6],.X [4e7,2e3,21e6]]),222 74 75 [.oJ [.i 48,.i 49,.i 50,.i 51,.i 52,.i 53] [.X [3e5,3e5,16e7],.X [3e5,2e3,16e7],.X [4e7,3e5,16e7],.X [4e7,2e3,16e7],.X [17e9,3e5,16e7],.X [17e9,2e3,16e7]]],222 74 75 [.oJ [.i 54,.i 55,.i 58,.i 59,.i 60,.i 61] [.X [17e9,2e3,21e6],.X [.i 8,2e3,16e7],.X [3e5,2e3,21e6],.X [4e7,2e3,21e6],.X [3e5,2e3,16e7],.X [4e7,2e3,16e7]]],143 (.l 74) (.i 62) (.X [17e9,2e3,16e7]),.r (.l 74)])
def adb:Fn:=(4 [76] [.r (239 [2e3,3e5,36e6,80 .jo (80 .kN 4e7 31) 1,.g5 (80 .kN 4e7 31),.i 255,.g5 (.i 129),175 1000] (175 8))])
def f1351:Fn:=(4 [77,78] [198 77 1 [.r (.fg (63 (232 78 2) .Eq [2e3]) (.ad [.X [21e6,2e3]]) (.ad [.X [.i 208,.g5 (.i 17)]]))] [],.r (.fg (63 (232 78 3) .Eq [2e3]) (.ad [.X [.i 208,.g5 16e6]]) (.ad [.X [.i 210,311 78 3 6]]))])
def f1358:Fn:=(4 [76,72] [270 [.X [16e8,35 .bo 76 (.l 72)],.X [16e8,165 .bo (35 .ce 76 (.l 72)) 72],.X [16e8,285 (35 .ce 76 (35 .kN 72 (.i 2))) 8]]])
def f1363:Fn:=(4 [79,76] [99 (.eV 79) [.Lt] [17e9] [.v 80 (.iF 17e0 (.n 6) (.k 81 [.k 82 []]) [63 (112 6 .Lt [.i 54]) .Eq [63 (.oH 79) .Lt [4e7]]]),.v 6 (115 80 (35 .bo 76 (195 80))),129 [.n 1,.n 78] [.a2 (.a2 (.k 82 []) 17e0) 4e7,35 .ce 76 (195 80)],99 (.eV 79) [.Lt] [4e7] [270 [.X [16e8,232 78 17],.X [17e0,2e3,311 78 17 3],.X [16e6,190 1 32 3e5 4e7]]],.v 54 (190 1 32 (.k 83 [214 78 34]) (239 [.k 83 [214 78 34],165 .jo (80 .jo (80 .kN 4e7 63) 1) 78,165 .dw (.g5 (80 .kN 4e7 63)) 78] (232 78 3))),270 [.X [16e8,232 78 17],.X [190 1 32 16e8 (.i 66),.l 54],.X [17e0,2e3,311 78 17 2]]],250 (.e (.eV 79) 17e9) [270 [.X [.i 63],.X [16e6,3e5]]],250 (.e (.eV 79) (.i 5)) [270 [.X [16e8,239 [2e3,3e5,4e7,36e6] (175 4)],.X [16e7],.X [16e6,3e5]]],250 (.e (.eV 79) (.i 6)) [270 [.X [16e8,175 18],.X [16e8,80 .jo (311 76 18 700) 100],.X [16e8,311 76 12600 7],.X [.i 64523]]],250 (.e (.eV 79) (.i 7)) [.r (331 (.k 84 [.l 76,.i 18]) [.X [.i 64522]])],.r (.fg (.e (.eV 79) (.i 8)) (331 (.k 84 [214 76 2,.i 17]) [.X [.i 64520,175 2]]) (.ad [.X [.i 64521,175 2]]))])
def f1370:Fn:=(4 [79,76] [.v 77 (175 3),.v 78 (214 76 3),198 79 12 [270 [.X [16e8,232 78 8],.X [.i 37,.l 77],.X [16e6,190 77 1 17e9 24e2]]] [],198 79 13 [.r (331 (215 (.ad [.X [16e8,232 78 8]]) (.k 85 [.l 77,214 78 8])) [.X [.i 38,.l 77]])] [],198 79 14 [270 [.X [.i 64528,.l 77],.X [16e6,3e5]]] [],198 79 15 [.r (331 (.k 85 [.l 77,.l 78]) [.X [16e8,239 [2e3,3e5,4e7,24e2,36e6] (311 78 18 5)],.X [.i 64527,.l 77],.X [16e6,3e5]])] [],198 79 16 [.r (331 (215 (.ad [.X [16e8,232 78 6]]) (.k 85 [.l 77,214 78 6])) [.X [16e8,311 78 108 5],.X [.i 64529,.l 77]])] [],198 79 17 [.bz (.t [.n 86,.n 49]) (239 [.X [2e3,4e7],.X [4e7,2e3],.X [2e3,2e3],.X [3e5,3e5],.X [4e7,4e7]] (175 5)),.r (331 (.k 84 [214 76 5,.i 6]) [.X [.i 64526,.l 86,29e7]])] [],198 79 18 [.bz (.t [.n 87,.n 88]) (239 [.X [2e3,2e3],.X [2e3,4e7],.X [3e5,3e5]] (.l 77)),.r (331 (.k 84 [.l 78,.i 6]) [.X [.i 64524,.l 87,.l 88]])] [],270 [.X [.i 64525,175 2]]])
def f1377:Fn:=(4 [0] [.v 79 (232 0 24),.v 76 (214 0 24),60 79 [.Lt] [.i 10] [196 89 [.l 79,.l 76]] [],198 79 10 [270 [.X [.i 35,175 3],.X [16e6,215 3e5 (175 3)]]] [],198 79 11 [.v 60 (.fg (63 (175 3) .Eq [4e7]) (.k 85 [2e3,214 76 3]) (.ad [.X [215 16e8 (175 3),.k 83 [214 76 3]]])),.r (35 .dw 60 (.ad [.X [.i 36,175 3]]))] [],60 79 [.Lt] [.i 20] [196 90 [.l 79,.l 76]] [],198 79 20 [.r (331 (.k 85 [175 2,214 76 2]) [.X [.i 209],.X [16e6,3e5]])] [],.v 91 (.ad [.X [16e8,.k 83 [.l 76]],.X [.i 66,.k 83 [214 76 8]]]),198 79 23 [.r (35 .dw 91 (.ad [.X [16e6,.i 5],.X [16e6,4e7]]))] [],.v 31 (239 [.i 5,.i 5,3e5,4e7] (175 4)),.v 92 (190 31 5 (.l 91) (.kL (.l 91) [(35 .jo 31 (.i 1))] [(.l 31)])),.r (215 (35 .dw 92 (.ad [.X [16e8,311 76 8 8],.X [.i 17,.l 31,239 [2e3,4e7] (311 76 4 2)]])) (190 31 5 (.ad [.X [16e6,4e7]]) 25e0))])
def Qh:Fn:=(4 [93] [.v 38 49e2,.mw (.n 54) (.kL 35e4 [] [(.i 6)]) [222 38 94 [.k 95 [232 54 100000007]]],99 (195 93) [.Gt] [.i 6] [222 38 94 [.ad [.X [16e8,285 (65 93 6) 100],.X [16e8,285 (80 .ce (65 93 6) 100) 7],.X [.i 19,3e5,239 [2e3,4e7] (285 (80 .ce (65 93 6) 700) 2)]]]],.r (35 .dw 38 (.ad [.X [.i 11]]))])
def f1389:Fn:=(4 [93] [.v 96 (.k 97 [35e4]),.v 98 (.oJ [.s Z1,.s Z2] [.d3 (.iF (285 (215 (.oH 96) (224 (.i 37) 99)) 256) (.n 99) (.k 57 [16e6]) []),.ad [356 [24e2,.z,4e7,3e5],356 [.z,.i 6],356 [2e3,24e2,.z]]]),129 [.s 17e4 (.s Z3),.s 17e4 (.s Z4)] [356 [.a7 .bo (.eV 96) (80 .kN 4e7 32),.a7 .bo (80 .f4 (.eV 96) 7) (80 .kN 4e7 64),.z],.ad [.i 6,17e9,.i 7]],129 [.s 17e4 (.s Z5),.s 17e4 (.s Z6)] [356 [.ad [24e2,.z,4e7,3e5],.ad [.z,.i 5]],356 [.k 56 [.iF (285 (165 .dw (.oH 96) 99) 256) (.n 99) (.k 57 [.i 8]) []],.c (.ch [120,121])]],129 [.s 17e4 (.s Z7),.s 17e4 (.s Z8),.s 17e4 (.s Z9),.s 17e4 (.s tw)] [49e2,2e3,.z,285 (.eV 96) 1000],.r 17e4])
def ve:Fn:=(4 [31,100] [196 101 [.a2 (.k 102 []) (.eV 31),.lam]])
def f1401:Fn:=(4 [93,98,38,100] [129 [.n 103,.n 104,.n 105] [.k 102 [],.k 106 [16e6,24e2,.i 7],.k 107 []],129 [.n 108,.n 109] [.k 110 [.k 111 [.l 103,25e0]],.k 110 [.k 111 [.l 103,25e0]]],129 [.a 43e5 112,.a 43e5 113,.a 43e5 114,.a 43e5 115] [.ad [3e5,4e7,2e3,17e9,.i 5,24e2],.ad [3e5,2e3,4e7],.ad [3e5],.ad [4e7,2e3,24e2]],129 [.a 43e5 116,.a 43e5 117] [.d3 (.iF (226 [.l 119]) (.n 119) (75 Z5) []),.d3 (226 [75 Z6])],208 (.l 109) 115 (.ad [3e5]),.v 120 (.k 121 [.i 5,5e7,.ad [.X [21e6,3e5],.X [.i 35,2e3],.X [.i 124],.X [.i 11]]]),.v 122 (.iF (.k 123 [.l 31,.oH 100]) (.n 31) (.X [4e7,3e5,24e2,17e9]) []),208 (.l 105) 112 (.ad [65 122 0,.k 124 [65 103 4,43e5,.k 121 [17e9,5e7,.l 38]],65 122 1,.k 124 [65 103 5,.l 109,.l 120],65 122 2,65 122 3]),208 (.l 105) 113 (.ad [.k 125 [.g5 (.i 17),4e7,17e9,.l 104],.k 125 [.g5 16e6,17e9,.i 6,.l 104],.k 125 [.g5 16e6,24e2,.z,.l 104]]),.mw (.t [52,126]) (.k 44 [.a 108 113]) [208 (.a2 (.a 105 113) 25e4) 119 (.d3 (226 [304 Z2 (.l 52)]))],208 (.l 105) 114 (.ad [.k 127 [3e5,3e5,.l 104],.k 127 [3e5,4e7,.l 104]]),104 (.a2 (.a 105 114) 3e5) 128 [2e3,.k 56 [75 Z1]],.v 129 (75 Z3),208 (.l 105) 115 (.ad [.k 130 [.g5 4e7,3e5,65 129 1],.k 130 [.g5 4e7,2e3,75 tw],.k 130 [36e6,3e5,65 129 0],.k 130 [.g5 16e6,3e5,.z]]),278 [.l 105,43e5]])
def f1406:Fn:=(4 [98,131,132] [.bz (.t [.n 55,.n 133,.n 1]) (.a2 (.k 82 []) (263 0)),129 [.n 51,.n 54] [75 Z1,.z],99 (263 0) [.oM] [.i 54] [.v 54 22e9],.v 42 (215 22e9 (263 2)),99 (165 .dw (.eV 42) 55) [.Gt] [194 (.eV 51)] [.r (.s cM)],60 54 [.oK] [.z] [.mw (.n 99) (.k 57 [.l 55]) [143 (.eV 51) (165 .dw (.eV 42) 99) (285 (35 .ce 54 (165 .kN (.i 256) 99)) 256)],.r (.z)] [],.v 23 (.k 97 [.iF (.a7 .f4 (.a2 (.oH 51) (165 .dw (.oH 42) 99)) (165 .kN (.i 256) 99)) (.n 99) (.k 57 [.l 55]) []]),250 (.ll [180 133 (.i 1),112 23 .oM [.a7 .kN 4e7 (80 .jo (224 (.i 8) 55) 1)]]) [.v 23 (215 (35 .jo 23 (.a7 .kN 4e7 (224 (.i 8) 55))) (165 .kN 4e7 1))],291 [.l 23],.r (.z)])
def f1413:Fn:=(4 [134,71,72,55,135] [.v 136 (165 .ce (195 134) 55),99 (95 136 71) [.Gt] [.l 72] [.r (80 .jo (80 .kN 4e7 32) 1)],222 134 94 [.a7 .f4 (.ad [.l 135]) (35 .f4 71 (.l 55))],.r (.l 136)])
def Qi:Fn:=(4 [88,42,137,49,9,58] [334 [63 (95 49 9) .Gt [195 137],63 (95 42 9) .Gt [195 88]] [.r 35e3],.mw (.t [99,60]) (.k 44 [.kL (.l 137) [29e7] [(95 49 9)]]) [143 (.l 88) (95 42 99) (.l 60)],.r (.z)])
def f1427:Fn:=(4 [98,131,132] [129 [.n 6,.n 113] [263 0,75 Z2],49 64527 [129 [.n 71,.n 60] [22e9,22e9],291 [.k 138 [115 113 23e9,.l 71,304 Z4 23e9,3e5,.l 60]],.r (.z)] [],129 [.n 9,.n 139,.n 42] [22e9,22e9,22e9],60 6 [.In] [.X [.i 64520,.i 64522,.i 64523]] [129 [.n 137,.n 49] [75 Z1,37e9],49 64520 [.v 137 (226 [.i7 [304 Z6 23e9,.c (.ch [])]])] [],49 64523 [129 [.n 137,.n 49] [224 (.ad [232 139 256]) 9,2e3]] [],196 140 [75 Z1,5e9,.l 137,29e7,15e4,.s cM]] [],.v 88 (115 113 (190 6 64524 (263 2) 23e9)),49 64529 [.r (.fg (63 (95 42 9) .Gt [195 88]) (.s c5) (.k 140 [.l 88,5e9,224 (.ad [37e9]) 9,2e3,15e4,.s Qf]))] [],.v 137 (190 6 64524 (226 [.i7 [304 Z5 23e9,25e0]]) (226 [115 113 (263 2)])),196 140 [.l 88,5e9,.l 137,37e9,15e4,.s c5]])
def f1434:Fn:=(4 [98,126,132,141] [.v 66 (.ad [4e7,17e9,3e5,.i 5,24e2,17e9]),.bD (.w 25e4 24e2) [104 (75 Z7) 46 [.X [115 66 25e4,.ad [22e9]]]] [198 141 1 [143 17e4 (.s Z9) (.X [.s kb,.s h9])] [129 [.n 139,.n 96] [22e9,22e9],291 [.a7 .bo (35 .dw 139 (75 tw)) (80 .kN 4e7 64)],143 17e4 (.s Z8) (80 .dw (75 Z8) 4)]],.r (.z)])
def f1441:Fn:=(4 [98,131,132,141] [129 [.n 119,.n 42] [304 Z2 (263 2),22e9],99 5e9 [.oM] [195 119] [.r (.s xj)],99 (115 119 5e9) [.Is] [.z] [.r (.s xk)],99 (239 [4e7,17e9,3e5,.i 5,24e2,17e9] (115 119 5e9)) [.gL] [23e9] [.r (.s xm)],196 142 [17e4,115 119 5e9,36e0,.l 141]])
def f1448:Fn:=(4 [98,131,132,141] [129 [.n 6,.n 113] [263 0,75 Z2],60 6 [.In] [.X [16e8,.i 66]] [291 [.a7 .bo 23e9 (.a7 .kN 4e7 (190 6 65 21e6 16e7))]] [60 6 [.In] [.X [21e6,.i 208,.i 210]] [291 [190 6 32 (.i 9) (190 6 208 (.z) (239 [3e5,4e7,2e3,17e9,.i 5,24e2] 23e9))]] [49 209 [291 [.k 62 [63 22e9 .Is [.z]]]] [49 16 [196 142 [17e4,239 [3e5,4e7,2e3,17e9,.i 5,24e2] 23e9,36e0,.l 141]] [60 6 [.In] [.X [.i 17,.i 19]] [196 143 [17e4,.l 131,36e0,.l 141]] [49 35 [291 [304 Z3 23e9]] [49 36 [143 (75 Z3) 23e9 22e9] [60 6 [.In] [.X [.i 37,.i 38]] [.v 60 (190 6 38 22e9 (.z)),.v 42 22e9,99 5e9 [.oM] [194 (115 113 23e9)] [.r (.s c5)],49 38 [143 (115 113 23e9) 5e9 (.l 60)] [291 [.a2 (115 113 23e9) 5e9]]] [60 6 [.In] [.X [.i 63,16e7]] [.v 71 (190 6 64 22e9 2e3),291 [.k 138 [75 Z1,.l 71,4e7,16e6,2e3]]] [60 6 [.Lt] [16e7] [196 144 [17e4,.l 131,36e0]] [60 6 [.In] [.X [.i 64521,.i 64525]] [143 (115 98 (190 6 64521 (.s Z6) (.s Z5))) 23e9 (.z)] [49 64528 [291 [194 (115 113 23e9)]] [196 145 [17e4,.l 131,36e0]]]]]]]]]]]]],.r (.z)])
def Qj:Fn:=(4 [98,38,141] [.v 132 49e2,.mw (.n 131) (.l 38) [143 17e4 (.s Z8) (80 .dw (75 Z8) 1),99 (263 0) [.Eq] [.i 11] [278 [.s ln,.k 146 [36e0]]],.v 58 (.k 147 [17e4,.l 131,36e0,.l 141]),334 [112 58 .oK [.z],63 (75 Z9) .oK [.z]] [.r (.fg (112 58 .oK [.z]) (.X [.s rK,35e3]) (75 Z9))],99 (263 0) [.Eq] [.i 19] [278 [.s ln,.k 146 [36e0]]]],.r (.z)])
def f1462:Fn:=(4 [148] [.AQ [222 148 151 []] [(.g 59,G 149,[278 [.s rK,.a 149 58]]),(.g 150,G 149,[278 [.s kb,.a 149 58]])],278 [.s ln,.k 146 [.a 148 132]]])
def qz:Fn:=(4 [93] [129 [.n 38,.n 98,.n 100] [.k 152 [35e4],.k 153 [35e4],49e2],.bz (.t [.n 105,.n 108]) (.k 154 [35e4,17e4,.l 38,.l 100]),.v 141 (.fg (.ll [.w 35e4 25e0,63 (285 (65 93 0) 5) .Eq [2e3]]) 3e5 24e2),.v 155 (.k 156 [.eV 105,.z,.l 141]),.v 157 (.k 158 [.k 159 [.l 155,3e5,.ad [.i 9]]]),334 [.w (.l 157) (.k 160 [17e4,.l 38,.l 141]),63 (.a 155 161) .gL [75 Z8],112 100 .gL [75 Z7]] [45e9],99 (.iF (226 [.eZ (211 (.oH 105) 113 25e4) 119]) (.n 126) (.a 108 113) []) [.gL] [75 Z2] [45e9],334 [63 (226 [.eZ (211 (.eV 105) 114 3e5) 162]) .gL [75 Z1],63 (226 [.eZ (211 (.eV 105) 114 2e3) 162]) .gL [80 .f4 (.ad [2e3]) 16]] [45e9],99 (.iF (.a 163 60) (.n 163) (.eZ (.eV 105) 115) []) [.gL] [.ad [304 Z3 3e5,75 tw,304 Z3 2e3,304 Z3 4e7]] [45e9],.r (.ll [63 (.a 108 116) .Eq [75 Z5],63 (.a 108 117) .Eq [75 Z6]])])
def Qk:Fn:=(4 [164,58] [104 (.g 165) 166 [28e1,35e3],27 58 58])
def f370:Fn:=⟨[164,167,168,169,141,170],[.i 65536,.i 65536,.i 4294967295,.i 200,.z],[27 167 167,27 168 168,27 169 169,27 141 141,27 170 170]⟩
def f499:Fn:=(4 [164,171,72,104] [60 171 [.Gt] [.a 104 168] [248 30 [.s Z21]] [],27 72 72,30 167 (.a 104 167),30 168 (.a 104 168),30 162 (.k 172 [35 .f4 171 (.a 104 167)])])
def f506:Fn:=(295 [.r (.a7 .ce (268 162) (33 167))])
def f520:Fn:=(4 [164,71] [.v 136 (.bl 28e1 55 []),99 (.k 173 [.l 136,.l 71,33 72,33 168]) [.Is] [.z] [.r (.g 174)],104 43e2 94 [.k 56 [35 .f4 71 (33 167)]],.r (.l 136)])
def f527:Fn:=(4 [164,42,9] [.ex (.k 175 [5e9,15e4,268 162,.g 176])])
def f534:Fn:=(4 [164,42,55] [255 [5e9,.l 55],196 178 [.kL 43e2 [5e9] [(95 42 55)]]])
def f541:Fn:=(4 [164,42,55,54] [255 [5e9,.l 55],.bz (.sl 43e2 (G 5e9) (G (95 42 55))) (.k 179 [35 .xn 54 (80 .jo (.a7 .pA 3e5 (224 (.i 8) 55)) 1),.l 55])])
def f555:Fn:=(4 [164,42,51] [255 [5e9,195 51],.bz (.sl 43e2 (G 5e9) (G (35 .dw 42 (195 51)))) (.l 51)])
def f562:Fn:=(4 [164,42,54,9] [255 [5e9,15e4],.bz (.sl 43e2 (G 5e9) (G (95 42 9))) (224 (.k 56 [.ad [35 .xn 54 (.i 255)]]) 9)])
def f569:Fn:=(4 [164,86,49,9] [255 [29e7,15e4],255 [.l 86,15e4],.bz (.sl 43e2 (G (.l 86)) (G (95 86 9))) (.kL 43e2 [29e7] [(95 49 9)])])
def f576:Fn:=(4 [164,42,51,49,9] [.v 134 (.fg (112 51 .Is [.z]) (.c (.ch [])) (.l 51)),.ex (.k 175 [29e7,15e4,195 134,.g 176]),255 [5e9,15e4],.bz (.sl 43e2 (G 5e9) (G (95 42 9))) (.kL (.l 134) [29e7] [(95 49 9)])])
def f604:Fn:=(4 [164,31,171,72,104] [60 171 [.Gt] [.a 104 169] [248 30 [.s Z22]] [],27 31 31,27 72 72,30 169 (.a 104 169),30 119 (224 (.ad [.z]) 171)])
def f611:Fn:=(295 [.r (268 119)])
def f625:Fn:=(4 [164,42,9] [.ex (.k 175 [5e9,15e4,268 119,.g 180])])
def f632:Fn:=(4 [164,42] [255 [5e9,3e5],.r (.a2 (33 119) 5e9)])
def f639:Fn:=(4 [164,42,60] [255 [5e9,3e5],143 (33 119) 5e9 (.l 60)])
def f646:Fn:=(4 [164,71,60] [.v 136 (268 119),99 (.k 173 [.l 136,.l 71,33 72,33 169]) [.Is] [.z] [.r (.g 174)],104 (33 119) 94 [224 (.ad [.l 60]) 71],.r (.l 136)])
def f653:Fn:=(4 [164,42,60,9] [255 [5e9,15e4],.bz (.sl (33 119) (G 5e9) (G (95 42 9))) (224 (.ad [.l 60]) 9)])
def f660:Fn:=(4 [164,86,137,49,9] [222 137 177 [29e7,15e4],255 [.l 86,15e4],.bz (.sl (33 119) (G (.l 86)) (G (95 86 9))) (.kL (.a 137 119) [29e7] [(95 49 9)])])
def f667:Fn:=(4 [164,42,119,49,9] [.v 134 (.fg (112 119 .Is [.z]) 25e0 (.l 119)),.ex (.k 175 [29e7,15e4,195 134,.g 180]),255 [5e9,15e4],.bz (.sl (33 119) (G 5e9) (G (95 42 9))) (.kL (.l 134) [29e7] [(95 49 9)])])
def f695:Fn:=(4 [164,31,181,60] [27 31 31,27 181 181,27 60 60])
def f744:Fn:=(4 [164,31,182,183] [27 31 31,27 182 182,27 183 183])
def f751:Fn:=(295 [45e9])
def f772:Fn:=(4 [164,31,184] [27 31 31,27 184 184])
def f779:Fn:=(295 [.r (.c 46e9)])
def f786:Fn:=(4 [164,67] [.v 23 (226 [218 184 [226 [.l 67]]]),250 (.pz (.k 185 [.a2 (33 31) 3e5,.l 23])) [248 30 [.s Z23]],.r (.l 23)])
def f807:Fn:=(4 [164,186] [27 186 186,30 66 (226 [.a 186 66]),30 112 25e0,30 113 25e0,30 114 25e0,30 115 25e0,30 116 25e0,30 117 25e0,30 187 (.oJ [] [])])
def f842:Fn:=(4 [164,188] [143 (33 116) (.l 188) (.z)])
def f849:Fn:=(4 [164,188] [143 (33 117) (.l 188) (.z)])
def f870:Fn:=(4 [164,66,112] [27 66 66,27 112 112])
def f891:Fn:=(295 [30 112 25e0])
def f912:Fn:=(4 [164,189,190,191,192] [27 189 189,27 190 190,27 191 191,27 192 192])
def f940:Fn:=(4 [164,126,183,193,194,195] [27 126 126,30 182 (.a 183 182),30 38 (.eZ (.a 183 183) 38),30 190 (194 (.a2 (.a 183 31) 3e5)),30 39 (65 193 0),30 40 (65 193 1),27 196 194,27 195 195,30 42 2e3,30 197 (356 [.k 198 [268 38,33 190,.l 195,.c 30e8]])])
def f947:Fn:=(295 [.r (63 (33 42) .oM [268 38])])
def f975:Fn:=(4 [164,155,126,67] [27 155 155,30 105 (.a 155 105),30 199 (.a 155 199),30 132 (.d3 (226 [.l 67])),30 200 49e2,30 201 (.c 30e8),74 202 [25e4]])
def f982:Fn:=(295 [.r (.e (268 200) 2e3)])
def f989:Fn:=(295 [.r (215 (33 199) (268 200))])
def J9:Fn:=⟨[164,9],[.z],[.v 203 2e3,.lQ (.ll [63 (268 200) .Gt [2e3],.i7 [112 9 .Is [.z],112 203 .Lt [15e4]]]) [74 204 [],.v 203 (35 .dw 203 (.i 1))],.r (.l 203)]⟩
def f1011:Fn:=(295 [334 [.bl 28e1 205 [],33 201] [248 30 [.s Z24]],104 43e1 206 [],.v 207 (.a2 (33 200) 36e6),.v 208 (.a 207 42),.v 43 (.a2 (.a 207 38) (.l 208)),208 9e2 42 (35 .dw 208 (.i 1)),30 201 (.c 46e9),74 209 [9e2,.l 208,25e8],30 201 (.c 30e8),.lQ (.ll [63 (268 200) .Gt [2e3],.bl (.a2 (33 200) 36e6) 205 []]) [104 (33 200) 50 []]])
def f1018:Fn:=(4 [164,207,208,43] [38e6,.bD (.bU (.i 69) [.lp,.lp] [17e0,.i 196]) [74 54 [17e0]] [.bD (.i7 [112 6 .lp [16e6],180 6 (.i 18)]) [74 210 [9e2,.l 208,25e8]] [.bD (.bU (.i 26) [.lp,.lp] [17e0,.i 34]) [74 211 [9e2,25e8]] [49 65 [176 [.k 3 [17e6,21e6]]] [49 66 [176 [.k 3 [17e6,16e7]]] [74 71 [9e2,25e8]]]]]]])
def f1032:Fn:=(4 [164,6] [221 212,.bD (.k 213 [17e0]) [176 [.k 214 [17e0,.l 212]]] [176 [.k 215 [17e0,28e2,.l 212]]]])
def f1039:Fn:=(4 [164,207,43] [38e6,49 32 [176 [.a2 (.a 207 196) 17e6]] [49 33 [143 (.a 207 196) 17e6 28e2] [49 34 [143 (.a 207 196) 17e6 (.a2 26e6 36e6)] [49 26 [104 26e6 50 []] [.v 216 (63 28e2 .gL [2e3]),221 139,221 96,176 [.fg (.l 216) (.l 96) 37e9]]]]]])
def f1046:Fn:=(4 [164,207,208,43] [38e6,.bD (180 6 (.g 48)) [104 (.a 207 197) 50 []] [49 12 [74 217 [9e2,17e6]] [49 13 [99 28e2 [.gL] [2e3] [74 217 [9e2,17e6]]] [.bD (.i7 [180 6 (.g 35),180 6 (.g 36)]) [74 49 [9e2,.l 208,25e8]] [.bD (180 6 (.g 37)) [74 218 [9e2,.l 208,25e8]] [.bD (180 6 (.g 47)) [208 9e2 42 (.a2 (.a 207 39) (.l 208))] [49 14 [74 219 [9e2,25e8]] [49 15 [74 220 [9e2]] [49 0 [248 59 [.g 221]] [60 6 [.oM] [16e6] [74 222 [9e2,211 37e5 112 17e6,180 6 (.i 18)]] []]]]]]]]]]])
def f1081:Fn:=(4 [164,191,9] [.v 223 (.kL 26e6 [(165 .jo (194 26e6) 9)] []),30 132 (.d3 (165 .dw (.kL 26e6 [] [(.l 191)]) 223))])
def f1095:Fn:=(4 [164,207,126,224] [250 (.l 224) [74 225 [.a 207 195,194 (211 (325 112 25e4) 31 2e3)],104 (33 200) 50 []],74 202 [25e4]])
def f1107:Fn:=(4 [164,126] [99 (.bl 28e1 141 []) [.oM] [.eZ 43e1 141] [248 150 [.g 226]],.v 183 (325 112 25e4),.v 195 (.a7 .jo (194 26e6) (194 (.a2 (.a 183 31) 2e3))),.v 194 (215 (.kL 26e6 [(.l 195)] []) (.iF (.k 227 [.l 31]) (.n 31) (.eZ (.a 183 183) 196) [])),30 132 (.d3 (.kL 26e6 [] [(.l 195)])),104 (33 200) 46 [.k 228 [25e4,.l 183,.bl 43e1 193 [25e4],.l 194,.l 195]],208 43e1 229 (.k 230 [.eZ 43e1 229,.bl 28e1 141 []])])
def f1129:Fn:=⟨[164,105,170,141],[.z,.i 200],[27 105 105,27 170 170,27 141 141,30 161 2e3,30 229 2e3,30 199 2e3,30 231 (.oJ [] [])]⟩
def f1136:Fn:=(295 [250 (.ll [63 (33 170) .oK [.z],63 (33 161) .oM [33 170]]) [248 150 [.g 232]],30 161 (80 .dw (33 161) 1)])
def f1157:Fn:=(4 [164,126] [60 126 [.AS] [33 231] [143 (33 231) 25e4 (.k 233 [.eZ (.eZ (325 112 25e4) 183) 38])] [],.r (.a2 (33 231) 25e4)])
def f1206:Fn:=(4 [164,207,43] [38e6,60 6 [.lp] [.i 19] [74 222 [9e2,218 234 [9e2,25e8],180 6 (.i 19)]] [60 6 [.lp] [.i 36] [74 163 [9e2,25e8]] [60 6 [.lp] [.i 38] [74 235 [9e2,25e8]] [60 6 [.lp] [16e7] [74 236 [9e2,25e8]] [60 6 [.lp] [.i 210] [74 237 [9e2,25e8]] [60 6 [.Lt] [.i 64524] [74 51 [9e2,25e8]] [74 169 [9e2,25e8]]]]]]]])
def f1213:Fn:=(4 [164,207,43] [.v 119 (.eZ (218 238 [9e2,65 43 2]) 119),221 42,99 5e9 [.oM] [195 119] [248 59 [.g 239]],99 (115 119 5e9) [.Is] [.z] [248 59 [.g 240]],99 (.eZ (325 112 (115 119 5e9)) 31) [.gL] [211 37e5 66 17e6] [248 59 [.g 241]],.r (115 119 5e9)])
def f1220:Fn:=(4 [164,126] [.v 183 (325 112 25e4),.bD (.bl (.l 183) 242 []) [.v 195 (.a7 .jo (194 26e6) (194 (.a2 (.a 183 31) 2e3))),.v 67 (.kL 26e6 [(.l 195)] []),30 132 (.d3 (.kL 26e6 [] [(.l 195)])),104 26e6 94 [218 243 [.l 183,.l 67]]] [74 244 [25e4]]])
def f1227:Fn:=(4 [164,183,67] [.v 245 (.eZ 43e1 199),208 43e1 199 (.bl 28e1 141 []),.xi [.r (.bl (.l 183) 148 [.l 67])] [208 43e1 199 (.l 245)]])
def f1234:Fn:=(4 [164,207,43] [.v 163 (325 115 (211 37e5 115 17e6)),.bD (.bU (65 43 0) [.Eq] [.i 35]) [176 [.a 163 60]] [208 (.l 163) 60 28e2]])
def f1241:Fn:=(4 [164,207,43] [.v 77 (218 238 [9e2,17e6]),.bD (.bU (65 43 0) [.Eq] [.i 37]) [176 [.bl (.l 77) 246 [28e2]]] [221 60,222 77 247 [28e2,.l 60]]])
def f1248:Fn:=(4 [164,207,188] [.r (325 113 (211 37e5 113 (.l 188)))])
def f1255:Fn:=(4 [164,207] [.r (325 114 (211 37e5 114 2e3))])
def f1262:Fn:=(4 [164,207,43] [38e6,.v 236 (218 248 [9e2]),60 6 [.In] [.g 249] [.bz (.t [.n 31,.n 51,.n 133]) (.a2 (.g 249) 17e0),.v 54 (.bl (.l 236) 250 [215 28e2 (65 43 2),.l 51]),176 [190 133 1 (.k 251 [.l 54,224 (.i 8) 51,.k 65 [.l 31]]) (.l 54)]] [60 6 [.In] [.g 252] [221 54,222 236 105 [215 28e2 (65 43 2),.a2 (.a2 (.g 252) 17e0) 3e5,.l 54]] [49 63 [176 [.bl (.l 236) 55 []]] [176 [.bl (.l 236) 253 [28e2]]]]]])
def f1269:Fn:=(4 [164,207,43] [38e6,49 64521 [104 37e5 254 [17e6],.bk L] [],221 9,221 139,221 42,.v 236 (218 248 [9e2]),49 64520 [222 236 255 [5e9,211 37e5 117 17e6,37e9,15e4]] [49 64522 [222 236 256 [5e9,37e9,15e4]] [222 236 257 [5e9,37e9,15e4]]]])
def f1276:Fn:=(4 [164,207,43] [38e6,49 208 [176 [.z]] [49 209 [176 [.fg (63 28e2 .Is [.z]) 3e5 2e3]] [176 [211 37e5 112 17e6]]]])
def f1283:Fn:=(4 [164,207,43] [38e6,49 64525 [104 37e5 258 [17e6]] [49 64528 [176 [.bl (218 238 [9e2,17e6]) 55 []]] [49 64527 [221 9,176 [.bl (218 238 [9e2,17e6]) 253 [15e4,28e2]]] [74 259 [9e2,25e8]]]]])
def f1290:Fn:=(4 [164,207,43] [38e6,221 9,221 139,221 42,49 64524 [104 (218 238 [9e2,65 43 2]) 255 [5e9,211 37e5 116 17e6,37e9,15e4]] [49 64526 [.v 137 (218 238 [9e2,65 43 2]),104 (218 238 [9e2,17e6]) 256 [5e9,.l 137,37e9,15e4]] [104 (218 238 [9e2,17e6]) 257 [5e9,37e9,15e4]]]])
def f1309:Fn:=(4 [164,31,260,38] [27 31 31,27 196 260,27 38 38])
def gl:0e1:=[(20,355 "len"),(59,5 51),(118,.aa 19e6),(3,5 84),(175,5 459),(44,.aa 47e0),(56,.aa 27e0),(57,.aa (.aB "range")),(140,5 1420),(30,5 75),(35,1e8),(36,3e4),(37,10e8),(47,3e8),(48,21e2),(138,5 1413),(142,5 1434),(146,.aa 26e5),(150,5 63),(173,5 478),(174,44e6),(176,2e7),(180,3e9),(249,5 406),(252,5 419),(4,5 91),(32,5 355),(33,12e9),(34,5 384),(45,5 433),(62,.aa (.aB "int")),(65,5 391),(68,355 "all"),(69,5 466),(70,.aa 45e4),(82,5 1337),(97,355 "sum"),(143,5 1441),(144,5 1406),(145,5 1427),(147,5 1448),(178,5 447),(179,5 452),(185,5 471),(198,5 922),(221,.ag Z25),(226,14e5),(227,5 398),(228,5 957),(230,355 "max"),(232,.ag Z26),(233,5 440),(239,.ag xj),(240,.ag xk),(241,.ag xm),(251,5 105),(10,0 194),(11,0 192),(12,0 172),(13,0 69),(14,0 80),(15,0 167),(16,0 173),(17,5 325),(18,0 103),(19,0 121),(21,.X [5 119,5 126,5 133]),(22,5 332),(24,0 106),(25,0 124),(26,.X [5 140,5 147,5 154,5 168,5 175,5 182,5 189,5 196,5 203,5 210,5 217,5 224,5 231,5 238,5 245]),(27,0 70),(28,0 81),(61,355 "isinstance"),(63,.aa (.aB "bool")),(64,10e9),(81,355 "sorted"),(83,5 1344),(84,5 1358),(85,5 1351),(89,5 1363),(90,5 1370),(95,5 1377),(101,5 789),(102,5 1330),(106,5 373),(107,5 894),(110,5 852),(111,5 873),(121,5 1319),(123,5 1396),(124,5 754),(125,5 677),(127,5 586),(130,5 726),(152,5 1384),(153,5 1389),(154,5 1401),(156,5 1188),(158,5 1462),(159,5 1293),(160,5 1455),(165,.aa 22e7),(172,.aa 26e7),(213,5 339),(214,5 346),(215,5 353)]
def ct:D (I×al×D (I×I)):=[(38,true,[(166,35)]),(51,true,[(166,35)]),(63,true,[(166,35)]),(75,true,[(166,35)]),(373,false,[(166,370)]),(586,false,[(166,499),(55,506),(253,520),(177,527),(250,534),(105,541),(128,555),(257,562),(256,569),(255,576)]),(677,false,[(166,604),(55,611),(177,625),(246,632),(247,639),(253,646),(257,653),(256,660),(255,667)]),(726,false,[(166,695)]),(754,false,[(166,744),(242,751)]),(789,false,[(166,772),(242,779),(148,786)]),(852,false,[(166,807),(258,842),(254,849)]),(873,false,[(166,870)]),(894,false,[(166,891)]),(922,false,[(166,912)]),(957,false,[(166,940),(205,947)]),(1110,false,[(166,975),(205,982),(141,989),(151,1004),(204,1011),(209,1018),(54,1032),(211,1039),(210,1046),(225,1081),(222,1095),(244,1107)]),(1188,false,[(166,1129),(206,1136),(193,1157)]),(1293,false,[(71,1206),(234,1213),(202,1220),(243,1227),(163,1234),(235,1241),(238,1248),(248,1255),(236,1262),(51,1269),(237,1276),(169,1283),(259,1290),(166,975),(205,982),(141,989),(151,1004),(204,1011),(209,1018),(54,1032),(211,1039),(210,1046),(225,1081),(222,1095),(244,1107)]),(1319,false,[(166,1309)])]
def ft:D (I×Fn):=[(1018,f1018),(1206,f1206),(1262,f1262),(1255,f1255),(1248,f1248),(527,f527),(459,ac5),(534,f534),(541,f541),(447,ac3),(452,ac4),(105,acT),(1269,f1269),(1283,f1283),(1290,f1290),(625,f625),(632,f632),(639,f639),(646,f646),(653,f653),(660,f660),(667,f667),(506,f506),(520,f520),(562,f562),(569,f569),(576,f576),(611,f611),(1241,f1241),(1234,f1234),(1276,f1276),(1095,f1095),(1220,f1220),(1227,f1227),(786,f786),(779,f779),(751,f751),(471,ac7),(989,f989),(1046,f1046),(1039,f1039),(1213,f1213),(1011,f1011),(1136,f1136),(982,f982),(947,f947),(1448,f1448),(1406,f1406),(1337,ada),(1413,f1413),(1420,Qi),(1427,f1427),(1434,f1434),(1441,f1441),(1455,Qj),(1004,J9),(84,f84),(91,f91),(391,ac0),(384,acZ),(478,ac8),(842,f842),(849,f849),(1107,f1107),(1157,f1157),(440,Qg),(940,f940),(912,f912),(433,ac2),(398,ac1),(140,acU),(325,acV),(332,acW),(339,acX),(353,acY),(466,ac6),(1330,ac9),(1344,adb),(1351,f1351),(1358,f1358),(1363,f1363),(1370,f1370),(1377,f1377),(1384,Qh),(1389,f1389),(1396,ve),(1401,f1401),(1462,f1462),(1467,qz),(35,Qk),(370,f370),(499,f499),(555,f555),(604,f604),(695,f695),(744,f744),(772,f772),(807,f807),(870,f870),(891,f891),(975,f975),(1032,f1032),(1081,f1081),(1129,f1129),(1309,f1309)]
def tx:D (I×5e6):=[(406,[(0 40,.X [12e9,10e8,0e7]),(0 41,.X [10e9,0 8,0e7]),(0 44,.X [12e9,1e3,1e3]),(0 45,.X [12e9,1e3,0e7]),(0 46,.X [12e9,1e8,1e3]),(0 47,.X [12e9,1e8,0e7]),(0 48,.X [10e9,1e3,1e3]),(0 49,.X [10e9,1e3,0e7]),(0 50,.X [10e9,1e8,1e3]),(0 51,.X [10e9,1e8,0e7]),(0 52,.X [10e9,10e8,1e3]),(0 53,.X [10e9,10e8,0e7])]),(419,[(0 54,.X [12e9,10e8]),(0 55,.X [10e9,0 8]),(0 58,.X [12e9,1e3]),(0 59,.X [12e9,1e8]),(0 60,.X [10e9,1e3]),(0 61,.X [10e9,1e8]),(0 62,.X [10e9,10e8])])]
def nH:D (I×D I):=[(373,[166]),(586,[31,55,105,128,166,177,250,253,255,256,257]),(677,[55,166,177,246,247,253,255,256,257]),(726,[166,246,247]),(754,[166,242]),(789,[148,166,242]),(852,[126,166,254,258]),(873,[166]),(894,[166]),(922,[166]),(957,[166,205]),(1110,[49,54,71,141,151,166,202,204,205,209,210,211,217,218,219,220,222,225,244]),(1188,[166,193,206]),(1293,[49,51,54,71,141,151,163,166,169,202,204,205,209,210,211,217,218,219,220,222,225,234,235,236,237,238,243,244,248,259]),(1319,[166])]
def Ka:D I:=[31,38,39,40,42,58,60,66,72,105,112,113,114,115,116,117,119,126,132,141,155,161,162,167,168,169,170,181,182,183,184,186,187,189,190,191,192,195,196,197,199,200,201,229,231]
inductive oN where
 |fB (l:D V)
 |j8 (i:I)
inductive It where
 |ej (s:oN)
 |gM (s:oN)
 |aR
 |dS (n:I)
inductive Tk where
 |x (e:apw)
 |t (e:apw)
 |ss (l:D S)
 |s (s:S)
 |aX (f:V) (as:D V)
 |gk (tg:Tg) (it:It) (k:I) (b:D S)
 |mx (e:apw) (tg:Tg) (j9:D apw) (it:It) (k:I) (j:I)
set_option genCtorIdx true in
inductive FO' where
 |next
 |bk (v:V)
set_option genCtorIdx true in
inductive A where
 |v (v:V)
 |b (b:al)
 |f (f:FO')
set_option genCtorIdx true in
inductive fk where
 |Y (a:A) (O:D aps) (T:D (I×V))
 |a8 (i:I) (O:D aps) (T:D (I×V))
inductive cq where
 |b (x:al)
 |v (x:V)
 |m (x:V)
 |ed (q:Tk->al) (r:Tk->D aps->D (I×V)->fk)
 |cu (q:Tk->al) (r:Tk->D aps->D (I×V)->fk)
 |q (x:al)
 |vs (l:D V)
 |by(l:D be)
 |n (k:I)
abbrev Ob:=Prop
structure MS where
 O:D aps
 T:D (I×V)
 bG:D cq:=[]
set_option genCtorIdx true in
inductive R (α:Type)where
 |aT (a:α) (F:MS) (ob:D Ob)
 |a8 (i:I) (F:MS) (ob:D Ob)
 |no (why:I)
def fk.mZ(o:fk)(bG:2e1)(ob:D Ob):2e9:=match o with
 | .Y a O T=> 20 a O T bG ob
 | .a8 i O T=> .a8 i (62 bG) ob
def V.mk1:V->V
 | .y i _=> 14e8
 | .bp b _=> .bp b true
 |v=>v
def R.Y{α:Type}(a:α)(F:MS):3e3:= 125 a F
def R.cj{α:Type}(o:D Ob)(r:3e3):3e3:=match r with
 | .aT a F p=> .aT a F (o++p)
 | .a8 i F p=> .a8 i F (o++p)
 | .no w=> 18e9
def R.aF{α β:Type}(r:3e3)(f:α->MS->R β):R β:=match r with
 | .aT a F o=>(f a F).cj o
 | .a8 i F o=> .a8 i F o
 | .no w=> 18e9
def R.oP{α:Type}(r:3e3)(f:I->MS->3e3):3e3:=match r with
 | .a8 i F o=>(f i F).cj o
 |r=>r
def gN{α β:Type}(o:ar β)(w:I)(f:β->3e3):3e3:=match o with
 |G a=>f a
 |L=> 18e9
def gB{α:Type}(b:al)(w:I)(r:3e3):3e3:=match b with
 |true=>r
 |false=> 18e9
def g0{α β:Type}(l:D β)(w:I)(r:3e3):3e3:=match l with
 | []=>r
 |_::_=> 18e9
def g1{α β:Type}(l:D β)(w:I)(f:β->3e3):3e3:=match l with
 | []=> 18e9
 |a::l=>g0 l w (f a)
def gC{α β:Type}(l:D β)(w:I)(f:β->D β->3e3):3e3:=match l with
 | []=> 18e9
 |a::l=>f a l
def gA{α:Type}(a:A)(w:I)(f:V->3e3):3e3:=match a with
 | .f o=>(match o with
  | .bk v=>f v
  | .bA=>f 0e6)
 |_=> 18e9
def gX{α:Type}(a:A)(w:I)(r:3e3):3e3:=match a with
 | .f o=>(match o with
  | .bA=>r
  | .bk _=> 18e9)
 |_=> 18e9
def rL(a:A)(F:MS)(k:2e9):2e9:=match a with
 | .f o=>(match o with
  | .bA=>k
  | .bk v=> 7 (105 v))
 | .v v=> 7 (.v v)
 | .b b=> 7 (.b b)
def pB(u:af):al:=I.bZ u.cf 0
def V.i?(v:V):ar (K×al):=match v with
 | .y i t=>G (i,t)
 |_=>L
def V.o?(v:V):ar I:=match v with
 | .Z i=>G i
 |_=>L
def V.r?(v:V):12e4:=match v with
 | .aa u=>G u
 |_=>L
def V.y?(v:V):ar 4e9:=match v with
 | .ch u=>G u
 |_=>L
def V.t?(v:V):37e1:=match v with
 | .X u=>G u
 |_=>L
def V.l?(v:V):ar (0e0×al):=match v with
 | .ad u t=>G (u,t)
 |_=>L
def ty(v:V):al:=v.r?.fP pB
def gI{α:Type}(v:V)(w:I)(f:K->al->3e3):3e3:=match v with
 | .y i t=>f i t
 |_=> 18e9
def gO{α:Type}(v:V)(w:I)(f:I->3e3):3e3:=match v with
 | .Z i=>f i
 |_=> 18e9
def vf{β:Type}(l:2e1)(d:β)(f:cq->2e1->β):β:=match l with
 | []=>d
 |q::o=>f q o
def Ql{β:Type}(l:2e1)(d:β)(f:al->2e1->β):β:=vf l d λq o=>match q with
 | .b x=>f x o
 |_=>d
def Qm{β:Type}(l:2e1)(d:β)(f:al->2e1->β):β:=vf l d λq o=>match q with
 | .q x=>f x o
 |_=>d
def Qn{β:Type}(l:2e1)(d:β)(f g:V->2e1->β):β:=vf l d λq o=>match q with
 | .v x=>f x o
 | .m x=>g x o
 |_=>d
def Kb{β:Type}(l:2e1)(d:β)(f:4e9->2e1->β):β:=vf l d λq o=>match q with
 | .by x=>f x o
 |_=>d
def pC(b t:al)(F:MS):R al:=cC t (Ql F.bG (7 b) λx o=> 20 x F.O F.T o [b=x]) (7 b)
def lk{α:Type}:34e7->I->29e4
 | [],_=>L
 |p::l,n=>match I.bZ p.1 n with
  |true=>37e6
  |false=>lk l n
def fw{α:Type}:34e7->I->α->34e7
 | [],n,v=>[(n,v)]
 |p::l,n,v=>match I.bZ p.1 n with
  |true=>(p.1,v)::l
  |false=>p::fw l n v
def my:1e0->I->aps->1e0
 | [],_,_=>[]
 |o::l,n,x=>match n with
  |0=>x::l
  |n+1=>o::my l n x
def MS.fw(F:MS)(n:I)(v:V):MS:=⟨F.O,Internal.fw F.T n v,F.bG⟩
def MS.cN(F:MS)(i:I)(o:aps):MS:=⟨my F.O i o,F.T,F.bG⟩
def MS.jp(F:MS)(o:aps):3e2:= .Y (.Z F.O.U) ⟨F.O++[o],F.T,F.bG⟩
def gv(n:I)(t:al)(F:MS):26e1:=match t with
 |true=> .aT () F (287 n)
 |false=>match I.g6 n 16777216 with
  |true=> 40e4
  |false=> .no 5
def MS.mkR(F:MS)(fz:al)(l:0e0)(t:al):3e2:=match fz with
 |true=> 7 (.ad l t)
 |false=>F.jp (.az l t)
def MS.kc(F:MS)(fz:al)(l:0e0)(t:al):3e2:=(gv l.U t F).aF λs F=>F.mkR fz l t
def MS.dL(F:MS)(i:I):ar aps:=22e0
def lr(O:1e0):V->34e1
 | .aa u=>cC (pB u) (G (false,false)) L
 | .bp b t=>G (b,t)
 | .y i t=>G (decide (i≠0),t)
 | .ag _=>L
 | .ch b=>G (!b.jN,true)
 | .X _=>L
 | .ad l t=>G (!l.jN,t)
 | .ei _=>L
 | .Z _=>L
def aps.li(o:aps):37e1:=match o with
 | .az l _=>G l
 |_=>L
def aps.sq(o:aps):37e1:=match o with
 | .az l _=>G l
 | .au l=>G l.et
 |_=>L
def aps.di(o:aps):ar 5e6:=match o with
 | .bw l=>G l
 |_=>L
def xp(os:1e0)(v:V):37e1:=(v.l?.aj (·.1)).or (v.o?.cr λi=>os[i]?.cr aps.li)
def ia(f:V->ar cm):0e0->ar (D cm)
 | []=>G []
 |v::l=>(f v).cr λd=>(ia f l).aj (d:: ·)
def eO:I->1e0->V->ar cm
 |0,_,_=>L
 |n+1,os,v=>match v with
  | .aa u=>cC (pB u) (G .L) L
  | .bp b _=>G (.bp b)
  | .y i _=>G (.y i)
  | .ag s=>cC (cm.rM s) (G (.ag s)) L
  | .ch _=>L
  | .ei _=>L
  | .X l=>(111 n os l).aj .qA
  | .ad l _=>(111 n os l).aj .az
  | .Z i=>(os[i]?.cr aps.sq).cr λl=>(111 n os l).aj .az
def qB:I->1e0->V->al
 |0,_,_=>true
 |n+1,os,v=>match v with
  | .bp _ t=>t
  | .y _ t=>t
  | .X l=>l.fP (qB n os)
  | .ad l t=>t||l.fP (qB n os)
  | .Z i=>match os[i]? with
   |G (.az l t)=>t||l.fP (qB n os)
   |G _=>true
   |L=>false
  |_=>false
def eq1(a b:V):ar al:=(a.r?.cr λu=>b.r?.cr λw=>cC (pB u&&pB w) (G true) L).or (a.y?.cr λx=>b.y?.aj λapp=>275 x app)
def eqB:0e0->0e0->ar al
 | [],m=>(match m with
  | []=>G true
  |_::_=>L)
 |a::l,m=>(match m with
  | []=>L
  |b::m=>(eq1 a b).cr λc=>(eqB l m).aj λd=>c&&d)
def pD(os:1e0)(a b:V):34e1:=(eO 12 os a).cr λx=>(eO 12 os b).aj λapp=>(cm.eqv x app,qB 12 os a||qB 12 os b)
def Qo(os:1e0)(a b:V):34e1:=a.o?.cr λi=>b.o?.cr λj=>142 i j L ((os[i]?.cr aps.li).cr λl=>(os[j]?.cr aps.li).cr λm=>(eqB l m).aj λc=>(c,true))
def vEq(os:1e0)(a b:V):34e1:=(pD os a b).or (Qo os a b)
def m0:V->V->al
 | .y i _,.y j _=>275 i j
 | .ag x,.ag app=>275 x app
 |_,_=>false
def lkV:5e6->V->9e5
 | [],_=>L
 |p::l,k=>match m0 p.1 k with
  |true=>37e6
  |false=>lkV l k
def nI:V->al
 | .y _ _=>true
 |_=>false
def rN:V->al
 | .ag _=>true
 |_=>false
def nJ(l:5e6)(k:V):al:=match k with
 | .y _ _=>l.dM λp=>nI p.1
 | .ag _=>l.dM λp=>rN p.1
 |_=>false
def qC(l:5e6)(k:V):ar 9e5:=match nJ l k with
 |true=>G (lkV l k)
 |false=>L
def iU:5e6->V->V->5e6
 | [],k,v=>[(k,v)]
 |p::l,k,v=>match m0 p.1 k with
  |true=>(p.1,v)::l
  |false=>p::iU l k v
def dN{α:Type}(l:8e4)(n:K):8e4:=(286 l).xq
def xr(i:K)(n:I):I:=kO n i
def vg(lo:8e5)(n:I):I:=match lo with
 |L=>0
 |G i=>xr i n
def xt(s:8e5)(n:I):I:=match s with
 |L=>n
 |G i=>xr i n
def bE{α:Type}(l:8e4)(lo s:8e5):8e4:=(l.fi (vg lo l.U)).fI (xt s l.U-vg lo l.U)
def bW{α:Type}(l:8e4)(lo s:8e5)(m:8e4):8e4:=l.fI (vg lo l.U)++m++l.fi (jq (vg lo l.U) (xt s l.U))
def oQ(b t:al)(F:MS):26e1:=match t with
 |true=> .aT () F [b=true]
 |false=>match b with
  |true=> 40e4
  |false=> .no 7
def jO(n:K):al:=bM (-9223372036854775808<=n)&&bM (n<9223372036854775808)
def xu(b:4e9)(n:K):al:=!b.jN&&bM (-1048576<=n)&&bM (n<=1048576)&&I.g6 b.U 16
def a9(op:rJ)(a b:K):al:=match op with
 | .f4=>decide (a.tz<2^64)||bM (b.tz<2^64)
 | .ce=>decide (b≠0)&&bM (b.tz<2^64)
 | .bo=>decide (b≠0)
 | .kN=>336 0 b&&bM (b<=1000)&&bM (a.tz<2^64)
 | .pA=>336 0 b&&bM (b<=1000000)&&bM (a.tz<2^64)
 | .xo=>336 0 b
 |_=>true
def Qp(op:rJ)(a b:K)(t:al)(F:MS):26e1:=match op with
 | .dw=> 40e4
 | .jo=> 40e4
 | .xn=> 40e4
 | .BitOr=> 40e4
 |_=>match t with
  |true=> .aT () F [a9 op a b=true]
  |false=>match a9 op a b with
   |true=> 40e4
   |false=> .no 6
def binI(op:rJ)(a:K)(b:K):8e5:=match op with
 | .dw=>G (a+b)
 | .jo=>G (a-b)
 | .f4=>G (a*b)
 | .ce=>G (a.aL b)
 | .bo=>G (a.ah b)
 | .kN=>G (a^b.aJ)
 | .pA=>G (a*2^b.aJ)
 | .xo=>G (a.aL (2^b.aJ))
 | .xn=>G (Builtin.i8 a b)
 | .BitOr=>G (Builtin.Kc a b)
 |_=>L
def Kd(fz:al)(op:rJ)(a b:V)(F:MS):3e2:=gB (305 .dw) 13 (gN (xp F.O a) 13 λl=>gN (xp F.O b) 13 λm=>223 (l++m) true)
def Ke(fz:al)(op:rJ)(a b:V)(F:MS):3e2:=match a with
 | .y i t=>gI b 13 λj u=>gN (binI op i j) 10 λk=>(Qp op i j (t||u) F).aF λs F=> 7 (.y k (t||u))
 | .ch x=>gB (305 .f4) 11 (gI b 13 λn s=>(oQ (xu x n) true F).aF λs F=> 7 (.ch (dN x n)))
 | .ad l t=>match op with
  | .f4=>gI b 13 λn u=>(oQ (jO n) (t||u) F).aF λs F=>223 (dN l n) (t||u)
  |op=>Kd fz op (.ad l t) b F
 |a=>Kd fz op a b F
def Qq(a:I):ar 5e6:=lk tx a
def lR:0e0->ar (D K)
 | []=>G []
 | .y i _::l=>(lR l).aj (i:: ·)
 |_::_=>L
def inI(a:V)(l:D K):34e1:=a.i?.aj λp=>(l.fP (· ==p.1),p.2)
def vh(u:af):ar 5e6:=match u with
 | .N d=>Qq d
 |_=>L
def AT(F:MS)(v:V):ar 5e6:=(v.r?.cr vh).or (v.o?.cr λi=>(18e7).cr aps.di)
def xw(a b:V)(F:MS):34e1:=(b.t?.cr λl=>(lR l).cr (inI a)).or ((AT F b).cr λl=>(qC l a).aj λr=>(r.ir,false))
def xx(x:34e1):34e1:=x.aj λp=>(!p.1,p.2)
def i2(f:K->K->al)(a b:V):34e1:=a.i?.cr λp=>b.i?.aj λq=>(f p.1 q.1,p.2||q.2)
def AU(b a:V)(c:al):34e1:=cC (ty b) (G (ty a !=c,false)) L
def lT(op:jn)(a b:V)(F:MS):34e1:=match op with
 | .Eq=>vEq F.O a b
 | .gL=>xx (pD F.O a b)
 | .Is=>AU b a false
 | .oK=>AU b a true
 | .In=>xw a b F
 | .AS=>xx (xw a b F)
 | .Lt=>i2 (λi j=>decide (i<j)) a b
 | .lp=>i2 (λi j=>336 i j) a b
 | .Gt=>i2 (λi j=>decide (j<i)) a b
 | .oM=>i2 (λi j=>336 j i) a b
def xy(op:jn)(a b:V)(F:MS):3e2:=Qm F.bG (gN (lT op a b F) 95 λp=> 7 (.bp p.1 p.2)) λc o=> 20 (.bp c false) F.O F.T o [∃t,lT op a b F=G (c,t)]
def tA(x:9e5)(t:al)(F:MS):3e2:=cC t (Qn F.bG (gN x 21 λv=> 21e8) (λapp o=> 20 app F.O F.T o [x=G app]) λapp o=> 20 app F.O F.T o [x.aj V.mk1=G app]) (gN x 20 λv=> 21e8)
def dq(l:0e0)(i:K):9e5:=match i with
 | .cg k=>l[k]?
 | .rP k=>match I.g6 (k+1) l.U with
  |true=>l[l.U-(k+1)]?
  |false=>L
def itemO(o:aps)(i:V)(F:MS):3e2:=match o with
 | .az l u=>gI i 23 λk t=>tA (dq l k) (t||u) F
 | .au l=>gI i 24 λk s=>gB (decide (k= -1)) 24 (tA l.pE false F)
 | .bw l=>gN (qC l i) 28 λr=>tA r false F
 |_=> .no 25
def xz(a i:V)(F:MS):3e2:=match a with
 | .X l=>gI i 22 λk t=>tA (dq l k) t F
 | .ad l u=>gI i 22 λk t=>tA (dq l k) (t||u) F
 | .Z o=>gN (F.dL o) 25 λo=>itemO o i F
 | .aa u=>gN (vh u) 26 λl=>gN (qC l i) 29 λr=>tA r false F
 |_=> .no 27
def vi(v:9e5):ar (8e5×al):=match v with
 |L=>G (L,false)
 |G (.y i t)=>G (G i,t)
 |_=>L
def AV(lo s:9e5):ar (8e5×8e5×al):=match vi lo with
 |G (a,t)=>(match vi s with
  |G (b,u)=>G (a,b,t||u)
  |L=>L)
 |L=>L
def gS{α:Type}(lo s:9e5)(w:I)(f:8e5->8e5->al->3e3):3e3:=gN (AV lo s) w λp=>f p.1 p.2.1 p.2.2
def sliceO(fz:al)(o:aps)(lo s:9e5)(F:MS):3e2:=match o with
 | .az l t=>gS lo s 31 λx app u=>223 (178 l) (t||u)
 | .au l=>gS lo s 32 λx app h=>cC fz (7 (6 (178 l.et))) (F.jp (.au (178 l.et).et))
 | .eG b=>gS lo s 33 λx app h=>Kb F.bG (7 (.ei (178 b))) λz o=> 20 (.ei z) F.O F.T o [178 b=z]
 |_=> .no 34
def tB(fz:al)(a:V)(lo s:9e5)(F:MS):3e2:=match a with
 | .ch b=>gS lo s 30 λx app h=> 7 (.ch (178 b))
 | .ad l t=>gS lo s 30 λx app u=>223 (178 l) (t||u)
 | .Z o=>gN (F.dL o) 34 λo=>sliceO fz o lo s F
 |_=> .no 35
def bB(b:be):V:= 2 b.aJ
def aps.oct(o:aps):37e1:=match o with
 | .eG b=>G (b.aj bB)
 |_=>L
def aps.fl(o:aps):al:=match o with
 | .az _ t=>t
 |_=>true
def lU(a:V)(F:MS):37e1:=match a with
 | .ad l _=>G l
 | .Z o=>(F.dL o).cr aps.sq
 |_=>L
def vj(a:V)(F:MS):37e1:=match a with
 | .ch b=>G (b.aj bB)
 | .Z o=>(F.dL o).cr aps.oct
 |_=>L
def Kf(a:V)(F:MS):37e1:=match a with
 | .Z o=>((F.dL o).cr aps.di).aj λl=>l.aj (·.1)
 |_=>L
def rQ(a:V)(F:MS):al:=match a with
 | .Z o=>(F.dL o).ak true aps.fl
 | .X _=>false
 | .ad _ t=>t
 |_=>true
def vk(a:K):D K->D K
 | []=>[a]
 |b::l=>if a<=b then a::b::l else b::vk a l
def xA(l:D K):D K:=l.foldr vk []
def lenO(o:aps)(F:MS):3e2:=match o with
 | .az l t=> 7 (.y l.U t)
 | .au l=> 7 (2 l.U)
 | .eG b=> 7 (2 b.U)
 |_=> .no 40
def Qr(a:V)(F:MS):3e2:=match a with
 | .ch b=> 7 (2 b.U)
 | .X l=> 7 (0 l.U)
 | .ad l t=> 7 (.y l.U t)
 | .ei b=> 7 (2 b.U)
 | .Z i=>gN 18e7 40 λo=>lenO o F
 |_=> .no 41
def AX(fz:al)(n:fH)(as:0e0)(F:MS):3e2:=
 cC (n== "len") (g1 as 46 λa=>Qr a F) <|
 cC (n== "sum") (g1 as 46 λa=>gN ((lU a F).cr lR) 42 λl=> 7 (2 l.lh)) <|
 cC (n== "max") (gC as 46 λa as=>g1 as 46 λb=>gI a 43 λi t=>gI b 43 λj u=> 7 (.y (jq i j) (t||u))) <|
 cC (n== "all") (g1 as 46 λa=>gN (lU a F) 44 λl=>g0 l 44 (7 46e9)) <|
 cC (n== "sorted") (g1 as 46 λa=>gN ((Kf a F).cr lR) 45 λl=>gB (I.jP l.U 64) 47 (gB fz 48 (7 (8 ((xA l).aj λi=> 6e5))))) <|
 .no 46
def vl(fz:al)(n:fH)(as:0e0)(F:MS):3e2:=
 cC (n== "list") (g1 as 55 λa=>(lU a F).ak (gN (vj a F) 50 λl=>gB fz 56 (7 (6 l))) λl=>223 l (rQ a F)) <|
 cC (n== "tuple") (g1 as 55 λa=>gN (lU a F) 51 λl=> 7 (.X l)) <|
 cC (n== "bytes") (g1 as 55 λa=>match a with
  | .y n _=>(oQ (decide (0<=n/\n<=16777216)) true F).aF λs F=> 7 (.ch (286 0))
  |a=>gN ((lU a F).cr lR) 52 λl=>(oQ (l.dM (290 (i<256))) true F).aF λs F=> 7 (.ch (265 48e0))) <|
 cC (n== "bytearray") (g1 as 55 λa=>gI a 53 λn s=>(oQ (decide (0<=n/\n<=16777216)) true F).aF λs F=>F.jp (.eG (286 0))) <|
 cC (n== "int") (g1 as 55 λa=>match a with
  | .bp b t=> 7 (.y (if b then 1 else 0) t)
  |_=> .no 54) <|
 .no 55
def kd(C n:I):al:=Ka.fP (λk=>I.bZ k n)&&((lk nH C).fP λl=>!l.fP λk=>I.bZ k n)
def qD(F:MS)(o:V)(n:I)(v:V):26e1:=match o with
 | .Z i=>gN 18e7 60 λo=>match o with
  | .bv C d=>gB (I.g6 d.U 900&&kd C n) 59 (163 () i (113 (fw d n v)))
  |_=> .no 60
 |_=> .no 61
def putO(F:MS)(k:I)(o:aps)(i v:V):26e1:=match o with
 | .az l u=>gI i 63 λj t=>(oQ (decide (0<=j/\j<l.U)) (t||u) F).aF λs F=> 163 () k (.az (l.cN j.aJ v) (t||u))
 | .bw l=>gB (nJ l i) 59 (gB (I.g6 l.U 900) 59 (163 () k (.bw (iU l i v))))
 |_=> .no 63
def Kg(F:MS)(o i v:V):26e1:=match o with
 | .Z k=>gN (F.dL k) 63 λo=>putO F k o i v
 |_=> .no 64
def putSO(F:MS)(k:I)(o:aps)(lo h:9e5)(v:V):26e1:=match o with
 | .az l t=>gS lo h 65 λx app u=>match v with
  | .ad m t'=>(gv (l.U+m.U) (t||u||t') F).aF λs F=> 163 () k (.az (bW l x app m) (t||u||t'))
  |_=> .no 65
 | .eG b=>gS lo h 67 λx app s=>match v with
  | .ch m=>(gv (b.U+m.U) true F).aF λs F=> 163 () k (.eG (bW b x app m))
  | .ei m=>(gv (b.U+m.U) true F).aF λs F=> 163 () k (.eG (bW b x app m))
  |_=> .no 67
 |_=> .no 68
def xB(F:MS)(o:V)(lo s:9e5)(v:V):26e1:=match o with
 | .Z k=>gN (F.dL k) 68 λo=>putSO F k o lo s v
 |_=> .no 69
def methL(i:I)(l:0e0)(t:al)(n:I)(as:0e0)(F:MS):3e2:=
 bif I.bZ n 46 then g1 as 72 λv=>(gv (l.U+1) t F).aF λs F=> 277 (.az (l++[v]) t)
 else bif I.bZ n 94 then g1 as 72 λv=>gN (lU v F) 70 λm=>(gv (l++m).U (t||rQ v F) F).aF λs F=> 277 (.az (l++m) (t||rQ v F))
 else 251 n 50 72 (g0 as 72 (gC l.et 71 λv r=> 163 v i (.az r.et t)))
def methK(i:I)(l:0e0)(n:I)(as:0e0)(F:MS):3e2:=
 bif I.bZ n 46 then g1 as 75 λv=>(gv (l.U+1) true F).aF λs F=> 277 (.au (v::l))
 else bif I.bZ n 94 then g1 as 75 λv=>gN (lU v F) 73 λm=>(gv (m.et++l).U true F).aF λs F=> 277 (.au (m.et++l))
 else 251 n 50 75 (g0 as 75 (gC l 74 λv r=> 163 v i (.au r)))
def methD(i:I)(l:5e6)(v:V)(F:MS):3e2:=match v with
 | .Z j=>gN (F.dL j) 76 λo=>match o with
  | .bw m=>gB (I.g6 (l.U+m.U) 900) 80 (gB (I.bZ i j).pz 80 (gB (m.dM λp=>nJ l p.1) 80 (gB (m.dM λp=>nJ m p.1) 80 (277 (.bw 46e0)))))
  |_=> .no 76
 |_=> .no 77
def methY(i:I)(b:4e9)(v:V)(F:MS):3e2:=match v with
 | .ch m=>(gv (b.U+m.U) true F).aF λs F=> 277 (.eG (b++m))
 |_=> .no 78
def xC(i:I)(o:aps)(n:I)(as:0e0)(F:MS):3e2:=match o with
 | .az l t=>methL i l t n as F
 | .au l=>methK i l n as F
 | .bw l=>251 n 75 77 (g1 as 77 λv=>methD i l v F)
 | .eG b=>251 n 94 78 (g1 as 78 λv=>methY i b v F)
 |_=> .no 79
def nK(C:I):ar (al×D (I×I)):=lk ct C
def Kh(a:I):ar Fn:=lk ft a
def xD(C:I):al:=(nK C).fP (·.1)
def srcOf(a:V)(F:MS):ar oN:=match a with
 | .X l=>G (.fB l)
 | .ad l _=>G (.fB l)
 | .Z i=>((18e7).cr aps.li).aj λs=> .j8 i
 |_=>L
def Qs(a:V)(F:MS):ar oN:=match a with
 | .ad l _=>G (.fB l)
 | .ei b=>G (.fB (b.aj bB))
 | .Z i=>((18e7).cr aps.li).aj λs=> .j8 i
 |_=>L
def oN.aP(F:MS):oN->37e1
 | .fB l=>G l
 | .j8 i=>(18e7).cr aps.li
def oN.at(F:MS)(s:oN)(k:I):ar 9e5:=(s.aP F).aj λl=>l[k]?
def It.at(F:MS)(s:It)(k:I):ar 9e5:=match s with
 | .ej s=>s.at F k
 | .gM s=>(s.at F k).aj λr=>r.aj λv=> .X [0 k,v]
 | .aR=>G L
 | .dS n=>G (cC (I.jP k n) (G (0 k)) L)
abbrev Ih:=Tk->MS->2e9
def ck(ih:Ih)(e:apw)(F:MS):3e2:=(ih (.x e) F).aF λa F=>match a with
 | .v v=> 21e8
 |_=> .no 90
def mz(ih:Ih)(e:apw)(F:MS):R al:=(ih (.t e) F).aF λa F=>match a with
 | .b b=> 7 b
 |_=> .no 91
def ke(ih:Ih):23e6->MS->R 0e0
 | [],F=> 7 []
 |e::l,F=>132 13e9 ((ke ih l F).aF (317 (v::vs)))
def lV(ih:Ih)(e:ar apw)(F:MS):R 9e5:=match e with
 |L=> 7 L
 |G e=>13e9 (395 2e4)
def AY(ih:Ih):D (apw×apw)->MS->R 5e6
 | [],F=> 7 []
 |p::l,F=>(76 p.1) λk F=>132 (76 p.2) ((AY ih l F).aF (317 ((k,v)::vs)))
def mA(r:3e2):2e9:=r.aF (395 (.v v))
def m3(r:26e1):2e9:=r.aF λs F=> 24e8
def xE(ih:Ih)(s:al):23e6->MS->3e2
 | [],_=> .no 92
 | [e],F=>ck ih e F
 |e::l,F=>132 13e9 (gN (lr F.O v) 93 λp=>(pC p.1 p.2 F).aF λb F=>cC (b==s) (xE ih s l F) 21e8)
def pF(ih:Ih)(s:al):23e6->MS->R al
 | [],F=> 7 s
 |e::l,F=>(mz ih e F).aF λb F=>cC (b==s) (pF ih s l F) (7 b)
def pG(ih:Ih)(a:V):D 40e1->MS->3e2
 | [],_=> .no 94
 | [p],F=>(76 p.2) λb F=>xy p.1 a b F
 |p::l,F=>(76 p.2) λb F=>gN (lT p.1 a b F) 96 λq=>(pC q.1 q.2 F).aF λc F=>cC c (pG ih b l F) (7 30e8)
def pH(F:MS)(s:Tg)(v:V):26e1:=match s with
 | .n k=> .Y () (F.fw k v)
 | .t l=>match v with
  | .X vs=>251 vs.U l.U 97 (.Y () ((l.fx vs).i9 (λF p=>F.fw p.1 p.2) F))
  |_=> .no 98
def qE(n:I):0e1->0e1
 | []=>[]
 |p::l=>match I.bZ p.1 n with
  |true=>qE n l
  |false=>p::qE n l
def xF(s:Tg)(T:0e1):0e1:=match s with
 | .n k=>qE k T
 | .t l=>l.i9 (λT k=>qE k T) T
def apw.g?(x:apw):ar I:=match x with
 | .g k=>G k
 |_=>L
def apw.xG(x:apw):ar (apw×23e6):=match x with
 | .aX f es=>G (f,es)
 |_=>L
def AZ(e:apw):ar (apw ⊕ apw ⊕ apw×apw):=e.xG.cr λp=>p.1.g?.cr λn=>match p.2 with
 | []=>L
 |a::es=>match es with
  | []=>142 n 44 (G (.a4 a)) (142 n 57 (G (.aE (.a4 a))) L)
  |b::es=>match es with
   | []=>142 n 70 (G (79 (a,b))) L
   |_::_=>L
def Qt(v:V):al:=match v with
 | .X l=>l.jN
 |_=>false
def tC(ih:Ih)(e:apw)(F:MS):R It:=match AZ e with
 |G (.a4 a)=>30e1 λv F=>gN (Qs v F) 100 λl=> 7 (.gM l)
 |G (.aE (.a4 a))=>30e1 λv F=>gI v 101 λn t=>(oQ (decide (0<=n/\n<=16777216)) t F).aF λs F=> 7 (.dS n.aJ)
 |G (.aE (.aE (a,b)))=>30e1 λv F=>(76 b) λw F=>gB (Qt v) 102 (gN (xp F.O w) 102 λs=> 7 .aR)
 |L=>132 13e9 (gN (srcOf v F) 103 λl=> 7 (.ej l))
def ib{α:Type}(r:3e3):3e3:=match r with
 | .a8 _ _ _=> .no 149
 |r=>r
def oR(it:It)(s:Tg):al:=match it,s with
 | .gM _,.n _=>false
 |_,_=>true
def qF(f:apq->V->MS->26e1):D apq->0e0->MS->26e1
 |t::l,v::vs,F=>(f t v F).aF λs F=>qF f l vs F
 |_,_,F=> 40e4
def jQ(ih:Ih):I->apq->V->MS->26e1
 |0,_,_,_=> .no 104
 |n+1,t,v,F=>match t with
  | .n k=> .Y () (F.fw k v)
  | .a o a=>(76 o) λo F=>qD F o a v
  | .s o i=>(76 o) λo F=>(76 i) λi F=>Kg F o i v
  | .sl o lo s=>(76 o) λo F=>(lV ih lo F).aF λlo F=>(lV ih s F).aF λs F=>xB F o lo s v
  | .t l=>match v with
   | .X vs=>251 vs.U l.U 105 (qF (jQ ih n) l vs F)
   |_=> .no 106
def apw.l?(x:apw):ar I:=match x with
 | .l k=>G k
 |_=>L
def apw.c?(x:apw):9e5:=match x with
 | .c k=>G k
 |_=>L
def apw.tup?(x:apw):ar 23e6:=match x with
 | .X k=>G k
 |_=>L
def apw.at?(x:apw):ar (apw×I):=match x with
 | .eZ k n=>G (k,n)
 |_=>L
def S.Qu(s:S):ar apw:=match s with
 | .bk e=>e
 |_=>L
def V.s?(v:V):ar am:=match v with
 | .ag s=>G s
 |_=>L
def hand1(h:apw×ar I×D S):ar (I×al×am):=h.1.g?.cr λk=>h.2.1.cr λn=>h.2.2.pE.cr λs=>s.Qu.cr λr=>r.tup?.cr λl=>l.pE.cr λa=>a.c?.cr λv=>v.s?.cr λz=>l.mm.pE.cr λb=>b.at?.cr λp=>p.1.l?.cr λm=>
 cC (I.bZ p.2 58) (G (k,I.bZ n m,z)) L
def A0{α:Type}(v:V)(w:I)(f:I->3e3):3e3:=match v with
 | .aa u=>(match u with
  | .N a=>f a
  |_=> 18e9)
 |_=> 18e9
def hand(C:aI)(v:V):D (apw×ar I×D S)->MS->2e9
 | [],_=> .no 137
 |h::hs,F=>gN (hand1 h) 138 λq=>gN (lk gl q.1) 135 λu=>A0 u 135 λa=>gB (q.2.1&&(!I.bZ a 38&&xD a)) 136 (142 a C (7 (307 [.ag q.2.2,v])) (hand C v hs F))
def notBi(u:af):al:=match u with
 | .bJ _=>false
 |_=>true
def Qv(v:V):al:=match v with
 | .aa u=>notBi u
 |_=>true
def Ki(x:9e5)(F:MS):3e2:=gN x 20 λv=>gB (Qv v) 152 21e8
def rR(ih:Ih)(f:V)(as:0e0)(F:MS):3e2:=(ih (.aX f as) F).aF λa F=>match a with
 | .v v=> 21e8
 |_=> .no 118
def xH(ih:Ih)(fz:al)(f:V)(as:0e0)(F:MS):3e2:=match f with
 | .aa u=>(match u with
  | .bJ n=>AX fz n as F
  | .aB n=>vl fz n as F
  |u=>rR ih 29e6 as F)
 |f=>rR ih f as F
def A1(n:I):ar fH:=142 n 46 (G "list.append") (142 n 94 (G "list.extend") (142 n 50 (G "list.pop") L))
def Qw(n:I):ar fH:=142 n 75 (G "dict.update") L
def Qx(n:I):ar fH:=142 n 94 (G "bytearray.extend") L
def rS(o:aps)(n:I):ar fH:=match o with
 | .az _ _=>A1 n
 | .au _=>A1 n
 | .bw _=>Qw n
 | .eG _=>Qx n
 |_=>L
def xI(C n:I):ar I:=(nK C).cr λq=>cC q.1 L (lk q.2 n)
def Qy(o:aps)(n:I)(F:MS):3e2:=match o with
 | .bv C d=>gB (kd C n) 146 (Ki (lk d n) F)
 |_=> .no 113
def Kj(ih:Ih)(fz:al)(i:I)(ob:aps)(n:I)(as:23e6)(F:MS):3e2:=match ob with
 | .bv C d=>cC (kd C n) ((Ki (lk d n) F).aF λf F=>(ke ih as F).aF λas F=>xH ih fz f as F)
   (gN (xI C n) 121 λf=>gB (lk d n).Qz 121 ((ke ih as F).aF λas F=>xH ih fz (5 f) (15e9::as) F))
 |ob=>gB (rS ob n).ir 119 ((ke ih as F).aF λas F=>gN 18e7 124 λs=>251 ob.cf s.cf 120 (xC i s n as F))
def tD(ih:Ih)(fz:al)(e:apw)(F:MS):3e2:=match e with
 | .d3 _=> .no 110
 | .c v=> 21e8
 | .l n=>gN (lk F.T n) 1000 λv=> 21e8
 | .eV n=>gN (lk F.T n) 1001 λv=> 21e8
 | .oH n=>gN (lk F.T n) 1002 λv=> 21e8
 | .g n=>gN (lk gl n) 112 λv=> 21e8
 | .eZ e n=>13e9 λo F=>gO o 114 λi=>gN 18e7 113 λob=>Qy ob n F
 | .a2 e i=>13e9 λo F=>(76 i) λi F=>xz o i F
 | .kL e lo s=>13e9 λo F=>(lV ih lo.pE F).aF λlo F=>(lV ih s.pE F).aF λs F=>tB fz o lo s F
 | .a7 op a b=>30e1 λa F=>(76 b) λb F=>Ke fz op a b F
 | .pz e=>13e9 λv F=>gN (lr F.O v) 115 λp=> 7 (.bp (!p.1) p.2)
 | .g5 e=>13e9 λv F=>gI v 116 λi t=> 7 (.y (-i) t)
 | .ll l=>xE ih true l F
 | .i7 l=>xE ih false l F
 | .bU a o l=>30e1 λa F=>pG ih a (o.fx l) F
 | .fg c a b=>(mz ih c F).aF λc F=>cC c (ck ih a F) (ck ih b F)
 | .X l=>(ke ih l F).aF λvs F=> 7 (.X vs)
 | .ad l=>(ke ih l F).aF λvs F=>223 vs false
 | .oJ k v=>(AY ih (k.fx v) F).aF λvs F=>gB (I.g6 vs.U 900&&vs.dM (λp=>nJ vs p.1)) 155 (F.jp (.bw (vs.i9 50e7 [])))
 | .iF e h it x=>(tC ih it F).aF λvs F=>gB (oR vs h) 157 ((ib (ih (.mx e h x vs 0 F.O.U) ⟨F.O++[2e0],xF h F.T,F.bG⟩)).aF λa bR=>gX a 117 (.Y (.Z F.O.U) ⟨bR.O,F.T,bR.bG⟩))
 | .aX f as=>(76 f) λf F=>(ke ih as F).aF λas F=>xH ih fz f as F
 | .bl o n as=>(76 o) λo F=>gO o 125 λi=>gN 18e7 123 λob=>Kj ih fz i ob n as F
 | .lam=> .no 126
def rT(ih:Ih)(e:apw)(F:MS):3e2:=match e with
 | .d3 e=>tD ih false e F
 |e=>tD ih true e F
def Kk(ih:Ih)(e:apw)(F:MS):R al:=match e with
 | .pz e=>(mz ih e F).aF λb F=> 7 (!b)
 | .ll l=>pF ih true l F
 | .i7 l=>pF ih false l F
 | .fg c a b=>(mz ih c F).aF λc F=>cC c (mz ih a F) (mz ih b F)
 |e=>132 (rT ih e F).aF (gN (lr F.O v) 127 λp=>pC p.1 p.2 F)
def xJ:apw->V
 | .c v=>v
 |_=> 0e6
def Fn.jr(fn:Fn)(n:I):0e0:=(fn.ds.fi (n+fn.ds.U-fn.ps.U)).aj xJ
def refO(u:af):ar I:=match u with
 | .N C=>G C
 |_=>L
def qG(b:D S):ar (I×apw):=cC b.mm.jN (b.pE.cr λs=>s.Qu.cr λr=>r.xG.cr λp=>p.1.g?.cr λk=>p.2.pE.cr λe=>cC (p.2.mm.pE.fP λz=>I.bZ z.cf 21) ((19 gl).cr λv=>v.r?.cr λu=>(refO u).aj λC=>(C,e)) L) L
def Kl(ih:Ih)(e:apw)(C:I)(as:0e0)(F:MS):3e2:=gC as 155 λk as=>gC as 155 λn as=>g0 as 155
 ((ib (ck ih e (220 [(31,k),(100,n)]))).aF λv bR=>(ib (ih (22 C [v,0e6]) bR)).aF λs s=>gN (lk bR.T 31) 126 λk=>gN (lk bR.T 100) 126 λn=>
  .Y (.Z bR.O.U) ⟨bR.O++[113 [(31,v),(184,.Z (bR.O.U+1))]]++[.cW k n],F.T,bR.bG⟩)
def vm(n:I)(k v:V)(F:MS):3e2:=match F.dL n with
 |G (.az _ _)=>(vl true "list" [v] F).aF λw F=>match F.dL n with
  |G (.az l t)=>(xC n (.az l t) 46 [.X [k,w]] F).aF λs F=> 7 11e0
  |_=> .no 132
 |_=> .no 132
def A2(ih:Ih)(s:al)(fn:Fn)(as:0e0)(F:MS):3e2:=251 (as++39e0).U fn.ps.U 129 ((qG fn.cX).ak
 ((ih (.ss fn.cX) ⟨F.O,fn.ps.fx (as++39e0),F.bG⟩).aF λr bR=>gA r 130 λv=> .Y v ⟨bR.O,F.T,bR.bG⟩)
 λq=>gB s 160 (Kl ih q.2 q.1 as F))
def A3(ih:Ih)(a:I)(q:al×D (I×I))(as:0e0)(F:MS):3e2:=cC q.1 (g1 as 153 λv=>F.jp (.a8 a [(58,v)]))
 (gN (lk q.2 166) 154 λi=>(F.jp (.bv a [])).aF λo F=>(rR ih (5 i) (o::as) F).aF λa F=>gB (ty a) 151 (7 o))
def QA(o:aps)(as:0e0)(F:MS):3e2:=match o with
 | .cW k w=>gO w 133 λn=>g1 as 133 λv=>vm n k v F
 |_=> .no 133
def vn(ih:Ih)(s:al)(f:V)(as:0e0)(F:MS):3e2:=match f with
 | .aa u=>A0 29e6 134 λa=>(Kh a).ak (gN (nK a) 131 λq=>A3 ih a q as F) λfn=>A2 ih s fn as F
 | .Z i=>gN 18e7 133 λo=>QA o as F
 |_=> .no 134
def A4(o:aps)(i:I)(F:MS):2e9:=match o with
 | .a8 C _=>gB (xD C) 148 (.a8 i F [])
 |_=> .no 150
def QB{α:Type}(v:V)(w:I)(f:am->3e3):3e3:=match v with
 | .ag s=>f s
 |_=> 18e9
def QC(o:aps)(hs:D (apw×ar I×D S))(F:MS):2e9:=match o with
 | .a8 C d=>gN (lk d 58) 139 λv=>QB v 139 λw=>gB (xD C) 139 (hand C (.ag w) hs F)
 |_=> .no 141
def A5(ih:Ih)(s:S)(F:MS):2e9:=match s with
 | .bz t e=>13e9 λv F=>m3 (jQ ih 3 t v F)
 | .ex e=>13e9 λx F=> 24e8
 | .bk L=> 7 (105 0e6)
 | .bk (G e)=>13e9 λv F=> 7 (105 v)
 | .bD c a b=>(mz ih c F).aF λc F=>cC c (ih (.ss a) F) (ih 12e5 F)
 | .lQ c b=>(mz ih c F).aF λq F=>cC q ((ih 12e5 F).aF λr F=>rL r F (ih (.s (.lQ c b)) F)) 24e8
 | .mw h i b=>(tC ih i F).aF λvs F=>gB (oR vs h) 156 (ib (ih (.gk h vs 0 b) F))
 | .kM e=>13e9 λv bR=>gO v 140 λi=>gB (I.g6 F.O.U i) 150 (gN (bR.dL i) 150 λo=>A4 o i bR)
 | .AQ b hs=>(ih 12e5 F).oP λi bR=>gN (bR.dL i) 141 λo=>QC o hs (4 bR.O bR.bG)
 | .xi b f=>match ih (12e5) F with
  | .a8 _ _ _=> .no 145
  |r=>r.aF λr F=>(ih (.ss f) F).aF λq F=>gX q 142 (7 r)
 | .AR=> 24e8
def ap1{α:Type}(s:Tg)(w:I)(f:I->3e3):3e3:=match s with
 | .n m=>f m
 | .t _=> 18e9
def QD(o:aps)(x:V)(j:I)(k:MS->2e9)(F:MS):2e9:=match o with
 | .az l t=>(gv (l.U+1) t F).aF λs F=>k (F.cN j (.az (l++[x]) t))
 |_=> .no 158
def ou(ih:Ih)(a:ar Ih)(n:al)(t:Tk)(F:MS):2e9:=match t with
 | .x e=>mA (rT ih e F)
 | .t e=>(Kk ih e F).aF λb F=> 7 (.b b)
 | .s s=>A5 ih s F
 | .ss l=>match l with
  | []=> 24e8
  |s::l=>(ih (.s s) F).aF λr F=>rL r F (ih (.ss l) F)
 | .aX f as=>match a with
  |L=> .no 0
  |G a=>mA (vn a n f as F)
 | .gk h it k b=>gN 32e4 143 λo=>o.ak 24e8 λv=>(pH F h v).aF λw F=>(ih 12e5 F).aF λr F=>rL r F (ih (.gk h it (k+1) b) F)
 | .mx e h p it k j=>gN 32e4 144 λo=>o.ak 24e8 λv=>ap1 h 159 λm=>(pF ih true p (F.fw m v)).aF λq F=>cC q
  (13e9 λx F=>gN (F.dL j) 158 λo=>QD o x j (ih (.mx e h p it (k+1) j)) F) (ih (.mx e h p it (k+1) j) F)
abbrev PP:=I->Tk->1e0->0e1->fk->Prop
def tE:Ih:=λs s=> .no 0
def QE{β:Type}(l:2e1)(d:β)(f g:(Tk->al)->(Tk->1e0->0e1->fk)->2e1->β):β:=vf l d λq o=>match q with
 | .ed q r=>f q r o
 | .cu q r=>g q r o
 |_=>d
def apy(P:PP):I->I->Ih
 |0,_=>tE
 |n+1,d=>λtk F=>QE F.bG (ou (apy P n d) (d.cE L λd=>G (apy P n d)) (I.g6 3 d) tk F)
  (λq r o=>cC (q tk) ((r tk F.O F.T).mZ o [P d tk F.O F.T (r tk F.O F.T)]) (ou (apy P n d) (d.cE L λd=>G (apy P n d)) (I.g6 3 d) tk F))
  (λq r o=>cC (q tk) ((r tk F.O F.T).mZ o [∀O T,P d tk O T (r tk O T)]) (ou (apy P n d) (d.cE L λd=>G (apy P n d)) (I.g6 3 d) tk F))
def pI:0e0:=[.X [5e7,5e7],.X [.X [12e9],5e7],.X [.X [10e9],5e7],.X [.X [27e3],5e7],.X [.X [34e8],5e7],.X [.X [12e9,10e9],.X [10e9]]]
def A6:0e0:=[.X [28e8,1e3],.X [16e3,0e7],.X [0 124],.X [21e2]]
structure MB where
 m:I->aps
 B:D V
 fc:K
 apr:K
 aO:D be
 T0:D V
 T1:D V
 T2:D V
 c0:K
 c1:K
 c2:V
 e0:V
 e1:V
 d0:V
 d1:V
 no:D V
 nl:D V
 gw:K
 pk:K
 g:D V
def MB.tb(b:MB)(t:K):0e0:=if t=0 then b.T0 else if t=1 then b.T1 else b.T2
def MB.e6(b:MB)(t:K)(l:0e0):MB:={b with T0:=if t=0 then l else b.T0,T1:=if t=0 then b.T1 else if t=1 then l else b.T1,T2:=if t=0 then b.T2 else if t=1 then b.T2 else l}
def MB.el(b:MB)(i:K):V:=if i=0 then b.e0 else b.e1
def MB.fC(b:MB)(i:K)(v:V):MB:={b with e0:=if i=0 then v else b.e0,e1:=if i=0 then b.e1 else v}
def MB.dl(b:MB)(i:K):V:=if i=0 then b.d0 else b.d1
def MB.fK(b:MB)(i:K)(v:V):MB:={b with d0:=if i=0 then v else b.d0,d1:=if i=0 then b.d1 else v}
def lm(t:K):K:=if t=0 then 6 else if t=1 then 4 else 7
def A7(t:K):V:=if t=0 then 0 6 else if t=1 then 10e8 else 0e6
def ee(t:K):Prop:=t=0\/t=1\/t=2
def ic(t:K):Prop:=t=0\/t=1
def LU(c n:K):Prop:=c=45/\n=1\/c=49/\n=1\/c=47/\n=2\/c=51/\n=2\/c=40/\n=4\/c=53/\n=4\/c=41/\n=8
def LS(c n q:K):Prop:=c=44/\n=1/\q=32\/c=48/\n=1/\q=64\/c=46/\n=2/\q=32\/c=50/\n=2/\q=64\/c=52/\n=4/\q=64
def ST(c n:K):Prop:=c=58/\n=1\/c=60/\n=1\/c=59/\n=2\/c=61/\n=2\/c=54/\n=4\/c=62/\n=4\/c=55/\n=8
def kf(n:K):Prop:=n=1\/n=2\/n=4\/n=8
def Km(n:K):K:=if n=1 then 255 else if n=2 then 65535 else if n=4 then 4294967295 else 18446744073709551615
def pJ(n v:K)(i:I):K:=340 ((Builtin.i8 v (Km n)).aL (2^(8*i)))
def CP(x app:K):Prop:=x=0/\app=2\/x=2/\app=0\/x=0/\app=0\/x=1/\app=1\/x=2/\app=2
def IN(x app:K):Prop:=x=0/\app=0\/x=0/\app=2\/x=1/\app=1
def KO(app:K):K:=if app=0 then 2 else if app=2 then 1 else if app=3 then 5 else 4
def Y6(app:K):Prop:=app=0\/app=1\/app=2\/app=3\/app=4\/app=5
def Q3(q:K):Prop:=q=1\/q=2\/q=5
def hJ(t:K):Prop:=t=0\/t=2
def vo(c:K):Prop:=c=17\/c=19
def fD:5e6:=[(1e3,.X [29e8,29e9])]
def hj:5e6:=[(1e3,.X [29e8,29e9]),(3e4,.X [.Z 63,.Z 64])]
def dE(S:I)(s:5e6)(fr:0e0)(k:K)(e h:0e0)(x:al)(b:MB)(aD:1e0):1e0:=
 b.m 0::b.m 1::b.m 2::b.m 3::b.m 4::b.m 5::b.m 6::b.m 7::b.m 8::b.m 9::b.m 10:: 37 b.no::b.m 12:: .bv 894 [(112,8 [.Z 24,.Z 33,.Z 26,.Z 34,.Z 28,.Z 30]),(113,8 [.Z 35,.Z 36,.Z 37]),(114,8 [.Z 41,.Z 43]),(115,8 [.Z 45,.Z 46,.Z 47,.Z 48])]::b.m 14:: .bv 852 [(186,.Z 14),(66,38e3),(112,8 [1e3,1e8,0e7,10e8,3e8,3e4]),(113,8 [1e3,0e7,1e8]),(114,8 [1e3]),(115,8 [1e8,0e7,3e4]),(116,.Z 20),(117,.Z 21),(187,.Z 16)]::b.m 16::b.m 17:: .bv 852 [(186,.Z 17),(66,38e3),(112,11e0),(113,11e0),(114,11e0),(115,8 [1e3]),(116,11e0),(117,11e0),(187,.Z 19)]::b.m 19:: 16 [b.e0,b.e1]:: 16 [b.d0,b.d1]:: .bv 1319 [(31,3e8),(196,5e7),(38,8 A6)]::b.m 23:: 177 (31,.X [.X [10e9],5e7]) (184,.Z 25):: 244 1e8:: 177 (31,.X [.X [12e9],5e7]) (184,.Z 27):: 244 1e3:: 177 (31,.X [.X [27e3],5e7]) (184,.Z 29):: 244 3e4:: 177 (31,.X [.X [34e8],5e7]) (184,.Z 31):: 244 10e8::b.m 32:: .bv 754 [(31,.X [.X [34e8],5e7]),(182,27e6),(183,.Z 32)]:: .bv 754 [(31,.X [.X [12e9,10e9],.X [10e9]]),(182,.Z 18),(183,.Z 22)]:: .bv 677 [(31,34e8),(72,10e8),(169,16e9),(119,.Z 39)]:: .bv 677 [(31,27e3),(72,0 6),(169,16e9),(119,.Z 38)]:: .bv 677 [(31,27e3),(72,0e6),(169,16e9),(119,.Z 40)]:: 37 b.T0:: 37 b.T1:: 37 b.T2:: .bv 586 [(72,1e3),(167,4e0),(168,3e4),(162,.Z 42)]::b.m 42:: .bv 586 [(72,1e8),(167,4e0),(168,3e4),(162,.Z 44)]:: .eG b.aO:: 254 [(31,10e9),(181,1e3),(60,31e1)]:: 254 [(31,10e9),(181,0e7),(60,33e8)]:: 254 [(31,12e9),(181,1e3),(60,31e2)]:: 254 [(31,27e3),(181,1e3),(60,b.c2)]:: .bv 1188 [(105,21e7),(170,0e6),(141,49e0),(161,2 b.gw),(229,2 b.pk),(199,0e7),(231,10e6)]:: .bw s:: .bv 1293 [(155,.Z 49),(105,21e7),(199,0e7),(132,.Z S),(200,.Z 53),(201,.bp x false)]::b.m 52:: 16 fr::b.m 54:: .au h::b.m 56::b.m 57::b.m 58:: .bv 957 [(126,1e3),(182,27e6),(38,6 b.B),(190,0e7),(39,29e8),(40,29e9),(196,6 [0 9]),(195,0e7),(42,(2 k)),(197,.Z 61)]::b.m 60:: 16 e::aD
def vp(e l h:I)(jG:K)(fa s:K):aps:= .bv 957 [(126,3e4),(182,.Z 18),(38,8 A6),(190,1e3),(39,.Z e),(40,.Z l),(196,6 [13e3,0e8]),(195,12e8),(42,0 jG),(197,.Z h)]
def js:1e0:=[6e4,6e4]
inductive Sh where
 |a
 |b (kn:D (V×V)) (E:D aps)
def b1(sh:Sh)(b:MB)(k:K)(au:0e0):1e0:=match sh with
 | .a=>dE 55 fD [3e7] k [6e0] au true b []
 | .b s E=>dE 62 s [3e7] k [6e0] b.g true b (43e6::E)
def ek(sh:Sh)(b:MB)(k:K)(au:0e0)(o:aps):1e0:=match sh with
 | .a=>dE 55 fD [3e7] k [6e0] au true b [o]
 | .b s E=>dE 62 s [3e7] k [6e0] b.g true b (43e6::(E++[o]))
def vq(sh:Sh)(b:MB)(k:K)(cO au fr:0e0):1e0:=match sh with
 | .a=>dE 62 fD fr k [6e0] cO true b [43e6,2e0]
 | .b s E=>dE (63+E.U) s fr k [6e0] b.g true b (31e9::(E++[43e6,2e0]))
def hq(sh:Sh):Prop:=sh= .a\/sh= .b fD []\/sh= .b hj js
def ja(sh:Sh)(b:MB)(k:K)(au:0e0):1e0:=match sh with
 | .a=>28 55 fD [3e7] k [6e0] au b []
 | .b s E=>28 62 s [3e7] k [6e0] b.g b (43e6::E)
def vr:aps:= .bv 922 [(189,10e8),(190,1e3),(191,12e8),(192,30e8)]
def pK(sh:Sh)(b:MB)(k:K)(cO:0e0)(fa h:K)(s:al):1e0:=match sh with
 | .a=>dE 63 [(1e3,.X [29e8,29e9]),(3e4,.X [.Z 64,.Z 65])] [3e7,.Z 67] k [6e0] cO s b [2e0,.au [],6e4,6e4,2e0,vp 64 65 69 0 fa h,vr,16 [.Z 68]]
 | .b _ []=>dE 64 [(1e3,.X [29e8,29e9]),(3e4,.X [.Z 65,.Z 66])] [3e7,.Z 68] k [6e0] b.g s b [31e9,2e0,.au [],6e4,6e4,2e0,vp 65 66 70 0 fa h,vr,16 [.Z 69]]
 | .b _ _=>dE 66 hj [3e7,.Z 67] k [6e0] b.g s b [31e9,6e4,6e4,2e0,.au [],vp 63 64 69 0 fa h,vr,16 [.Z 68]]
def mC(jG:K)(b:MB)(k:K)(au:0e0)(fa s:K):1e0:=28 62 hj [3e7,.Z 65] k [6e0] b.g b [43e6,6e4,6e4,vp 63 64 67 jG fa s,vr,16 [.Z 66]]
def Kn(sh:Sh)(b:MB)(k:K)(au:0e0):1e0:=match sh with
 | .a=>dE 55 fD [3e7] k [] au true b []
 | .b s E=>dE 62 s [3e7] k [] b.g true b (43e6::E)
def xK(sh:Sh)(b:MB)(k:K)(cO:0e0):1e0:=match sh with
 | .a=>dE 63 fD [] k [6e0] cO true b [44e0,20e1,2e0]
 | .b s E=>dE (64+E.U) s [] k [6e0] b.g true b (31e9::(E++[44e0,20e1,2e0]))
def dK(dn:K):0e1:=[(164,7e9),(9,0e6),(203,2 dn)]
def mB:D S:=match J9.cX with
 | [_,.lQ _ b,_]=>b
 |_=>[]
def rU:apw:=match J9.cX with
 | [_,.lQ t _,_]=>t
 |_=> .lam
def cG(P:PP)(sh:Sh)(b:MB)(k k1:K)(bx:V)(au:0e0)(T:0e1)(o:2e1):2e9:=apy P 90 37 (22 1018 [7e9,3e7,2 k,bx]) ⟨101 b au,T,o⟩
abbrev ea(O:1e0)(T:0e1)(ca:6e1):2e9:= 93 0e6 O ca
abbrev gy(i:I)(O:1e0)(ca:6e1):2e9:= .a8 i (4 O []) ca
def fU(r:2e9):2e9:=match r with
 | .a8 i F ob=> .a8 i (4 F.O F.bG) ob
 |r=>r
def gm:4e9->K
 | []=>0
 |x::l=>25e6+256*gm l
def m4(x n b:K):K:=if 2^(n.aJ-1)<=x % 2^n.aJ then(x % 2^n.aJ-2^n.aJ) % 2^b.aJ else x % 2^n.aJ
def bT(f:I):Tk->al:=λtk=>match tk with
 | .aX (.aa (.N a)) _=>I.bZ a f
 |_=>false
def rV(v:V):Tk->1e0->0e1->fk:=λs O T=> 36 v O T
def rX(w:V):Tk->1e0->0e1->fk:=λs O T=> .a8 O.U (O++[.a8 51 [(58,w)]]) T
abbrev cw(P:PP)(d f:I)(as:0e0)(v:V):Prop:=∀O T,P d (22 f as) O T (36 v O T)
abbrev jR(P:PP)(d f:I)(as:0e0)(w:V):Prop:=∀O T,P d (22 f as) O T (.a8 O.U (O++[.a8 51 [(58,w)]]) T)
def vt(P:PP)(sh:Sh)(b:MB)(k1:K)(bx:V)(au:0e0)(T:0e1)(o:2e1):2e9:=apy P 60 35 (272 [7e9,3e7,bx]) ⟨101 b au,T,o⟩
abbrev QF(v:V)(O:1e0)(T:0e1)(ca:6e1):2e9:= 93 v O ca
abbrev m5(b:MB)(k:I)(bx:V):Prop:=dq b.B (k:K)=G bx
abbrev iV(b:MB)(k:I)(q:al):Prop:=bM ((b.B.U:K)<=(k:K)+1)=q
def dy{α β:Type}{apu apx:α->β}(l:8e4)(h:l.aj apu=l.aj apx):∀a,a∈l->apu a=apx a:=D.gH.mp h
def QG{β:Type}(apu:K->K->β)(p:K×K):β:=apu p.1 p.2
def QH{β:Type}(apu:K->K->K->β)(p:K×K×K):β:=apu p.1 p.2.1 p.2.2
def QI{β:Type}(apu:Sh->β)(s:5e6)(E:1e0):β×β:=(apu .a,apu (.b s E))
def iu{β:Type}{apu apx:K->K->β}(l:D (K×K))(h:l.aj (QG apu)=l.aj (QG apx)):∀a b,(a,b)∈l->apu a b=apx a b:=λs s=>D.gH.mp h _
def tab3{β:Type}{apu apx:K->K->K->β}(l:D (K×K×K))(h:l.aj (QH apu)=l.aj (QH apx)):∀a b c,(a,b,c)∈l->apu a b c=apx a b c:=λs s s=>D.gH.mp h _
def dW{β:Type}{apu apx:Sh->β}(h:QI apu=QI apx):∀sh,apu sh=apx sh:=by
 intro sh;cases sh with
 |a=>exact bC (·.1) (xL (xL h []) [])
 |b s E=>exact bC (·.2) (xL (xL h s) E)
def nL{sh:Sh}(h:15e0):sh∈ [Sh.a,.b fD [],.b hj js]:=by
 rcases h with H|rfl|rfl
 ·exact .rq _
 ·exact .mm _ (.rq _)
 ·exact .mm _ (.mm _ (.rq _))
def kg{t:K}(h:7e3):t∈ [(0:K),1,2]:=by rcases h with H|rfl|rfl<;>decide
def mD{t:K}(h:ic t):t∈ [(0:K),1]:=by rcases h with H|rfl<;>decide
def pL{t:K}(h:19e3):t∈ [(0:K),2]:=by rcases h with H|rfl<;>decide
def A8{t:K}(h:vo t):t∈ [(17:K),19]:=by rcases h with H|rfl<;>decide
def Y3_m{t:K}(h:t=0\/t=2\/t=3):t∈ [(0:K),2,3]:=by rcases h with H|rfl|rfl<;>decide
def QJ{t:K}(h:t=1\/t=2\/t=3\/t=4):t∈ [(1:K),2,3,4]:=by rcases h with H|rfl|rfl|rfl<;>decide
def xM{x app:K}(h:CP x app):(x,app)∈ [((0:K),(2:K)),(2,0),(0,0),(1,1),(2,2)]:=by rcases h with⟨H,H⟩|⟨H,H⟩|⟨H,H⟩|⟨H,H⟩|⟨H,H⟩<;>decide
def pM{x app:K}(h:IN x app):(x,app)∈ [((0:K),(0:K)),(0,2),(1,1)]:=by rcases h with⟨H,H⟩|⟨H,H⟩|⟨H,H⟩<;>decide
def A9:D (K×K):=[(45,1),(49,1),(47,2),(51,2),(40,4),(53,4),(41,8)]
def Ko{x app:K}(h:LU x app):(x,app)∈A9:=by rcases h with⟨H,H⟩|⟨H,H⟩|⟨H,H⟩|⟨H,H⟩|⟨H,H⟩|⟨H,H⟩|⟨H,H⟩<;>decide
def Ba:D (K×K×K):=[(44,1,32),(48,1,64),(46,2,32),(50,2,64),(52,4,64)]
def QK{x app q:K}(h:LS x app q):(x,app,q)∈Ba:=by rcases h with⟨H,H,H⟩|⟨H,H,H⟩|⟨H,H,H⟩|⟨H,H,H⟩|⟨H,H,H⟩<;>decide
def QL{x app:K}(h:LU x app\/∃q,LS x app q):(x,app)∈A9++Ba.aj λp=>(p.1,p.2.1):=by
 rcases h with h|⟨q,h⟩
 ·exact D.w3 _ (Ko h)
 ·exact D.uP _ (D.oz (f:=λp:K×K×K=>(p.1,p.2.1)) (QK h))
def STl:D (K×K):=[(58,1),(60,1),(59,2),(61,2),(54,4),(62,4),(55,8)]
def Bb{x app:K}(h:ST x app):(x,app)∈STl:=by rcases h with⟨H,H⟩|⟨H,H⟩|⟨H,H⟩|⟨H,H⟩|⟨H,H⟩|⟨H,H⟩|⟨H,H⟩<;>decide
def QYl:D (K×K):=[(1,0),(1,1),(1,3),(1,4),(1,5),(2,1),(2,2),(2,3),(2,4),(2,5),(5,0),(5,1),(5,2),(5,4),(5,5)]
def QM{q app:K}(s:Q3 q)(h:Y6 app)(x:31e3≠q):(q,app)∈QYl:=by
 rcases s with H|rfl|rfl<;>rcases h with H|rfl|rfl|rfl|rfl|rfl<;>first|exact bL H x|decide
def dc(b:MB)(oc:0e0)(en:V)(au:0e0):1e0:=b.m 0:: 37 oc:: 37 b.T0:: 37 b.T1:: 37 b.T2:: .bw [(.ag Z1,10e1),(.ag Z2,8 [13e4,13e5,13e6]),(.ag Z3,.Z 6),(.ag Z4,8 [0 6,10e8,16e9]),(.ag Z5,.Z 7),(.ag Z6,.Z 9),(.ag Z7,.Z 10),(.ag Z8,2 b.gw),(.ag Z9,en),(.ag tw,33e8)]:: 16 [31e2,31e1,b.c2]:: 16 [b.e0,b.e1]::b.m 8:: 16 [b.d0,b.d1]:: 37 b.nl::b.m 11::b.m 12::b.m 13::b.m 14::b.m 15::b.m 16::b.m 17::b.m 18::b.m 19::b.m 20::b.m 21::b.m 22::b.m 23::b.m 24::b.m 25::b.m 26::b.m 27::b.m 28::b.m 29::b.m 30::b.m 31::b.m 32::b.m 33::b.m 34::b.m 35::b.m 36::b.m 37::b.m 38::b.m 39::b.m 40::b.m 41::b.m 42::b.m 43::b.m 44::b.m 45::b.m 46::b.m 47::b.m 48::b.m 49:: 43e6::[]
def ad(b:MB)(en:V)(au:0e0):1e0:=dc b 4e2 en au
def df(P:PP)(b:MB)(apr:K)(bx:V)(au:0e0)(T:0e1)(o:2e1):2e9:=apy P 90 39 (22 1448 [6e3,bx,10e6,23e1]) ⟨30e4,T,o⟩
abbrev c6(v:V)(O:1e0)(T:0e1)(ca:6e1):2e9:= 93 v O ca
def c7(r:2e9):2e9:=match r with
 | .aT a F ob=> .aT a ⟨F.O.fI 51,F.T,F.bG⟩ ob
 |r=>r
def iG(v:V)(O:1e0):Tk->1e0->0e1->fk:=λs s l=> 36 v O l
def mF(P:PP)(o1 o2:1e0)(v:V)(as:0e0)(T:0e1):Prop:=P 37 (217 as) o1 T (36 v o2 T)
def dz(k:K)(bx:V):0e1:=[(164,7e9),(207,3e7),(208,2 k),(43,bx)]
abbrev aG(b:MB):MB:={b with gw:=b.gw+1}
abbrev xN(P:PP)(sh:Sh)(b:MB)(k:K)(bx:V)(au:0e0)(O:1e0):Prop:=P 37 (22 1018 [7e9,3e7,2 k,bx]) (276 (k+1) au) 19e4 (36 0e6 O 19e4)
abbrev QN(P:PP)(sh:Sh)(b:MB)(k:K)(bx:V)(au:0e0)(i:I)(O:1e0):Prop:=P 37 (22 1018 [7e9,3e7,2 k,bx]) (276 (k+1) au) 19e4 (.a8 i O 19e4)
def rO(O:1e0):Tk->1e0->0e1->fk:=λs s l=> 36 0e6 O l
def ap2(i:I)(O:1e0):Tk->1e0->0e1->fk:=λs s l=> .a8 i O l
def rW(P:PP)(sh:Sh)(b b':MB)(k:I)(dn:K)(bx:V)(au:0e0)(S:I)(s:5e6)(x h:0e0)(aD:1e0):
  126 P 38 mB ⟨ja sh b k au,8e1,[.v bx,.ed (bT 1018) (rO (dE S s [3e7] (k+1) x h true b' aD)),1e9]⟩= 57 ⟨28 S s [3e7] (k+1) x h b' aD,dK (dn+1),[]⟩ [m5 b k bx,xN P sh b k bx au (dE S s [3e7] (k+1) x h true b' aD),iV b' k false]:=by cases sh<;>kernel_rfl
def adc(P:PP)(sh:Sh)(b b':MB)(k:I)(dn:K)(bx:V)(au:0e0)(S:I)(s:5e6)(x h:0e0)(aD:1e0):
  126 P 38 mB ⟨ja sh b k au,8e1,[.v bx,.ed (bT 1018) (rO (dE S s [3e7] (k+1) x h true b' aD)),6e7]⟩= 57 ⟨28 S s [] (k+1) x h b' aD,dK (dn+1),[]⟩ [m5 b k bx,xN P sh b k bx au (dE S s [3e7] (k+1) x h true b' aD),iV b' k true]:=by cases sh<;>kernel_rfl
def Kq(P:PP)(sh:Sh)(b b':MB)(k:I)(dn:K)(bx:V)(au:0e0)(S:I)(s:5e6)(x h:0e0)(aD:1e0):
  126 P 38 mB ⟨ja sh b k au,8e1,[.v bx,.ed (bT 1018) (rO (dE S s [] (k+1) x h true b' aD))]⟩= 57 ⟨28 S s [] (k+1) x h b' aD,dK (dn+1),[]⟩ [m5 b k bx,xN P sh b k bx au (dE S s [] (k+1) x h true b' aD)]:=by cases sh<;>kernel_rfl
def add(P:PP)(sh:Sh)(b:MB)(k:I)(dn:K)(bx:V)(au:0e0)(i:I)(O:1e0):
  fU (126 P 38 mB ⟨ja sh b k au,8e1,[.v bx,.ed (bT 1018) (ap2 i O)]⟩)= .a8 i (4 O []) [m5 b k bx,QN P sh b k bx au i O]:=by cases sh<;>kernel_rfl
def Kr(P:PP)(sh:Sh)(h:15e0)(b b':MB)(k:I)(dn:K)(bx:V)(au cO:0e0)(fa s:K):
  126 P 38 mB ⟨ja sh b k au,8e1,[.v bx,.ed (bT 1018) (rO (pK sh b' (k+1) cO fa s true))]⟩= 57 ⟨pK sh b' (k+1) cO fa s false,dK (dn+1),[]⟩ [m5 b k bx,xN P sh b k bx au (pK sh b' (k+1) cO fa s true)]:=by rcases h with H|rfl|rfl<;>kernel_rfl
def ade(P:PP)(b:MB)(k dn fa s:K):126 P 38 mB ⟨mC 0 b k [] fa s,8e1,[]⟩= 57 ⟨mC 1 1e2 k [0e8] fa s,dK (dn+1),[]⟩ (287 1):=av
def adf(P:PP)(b:MB)(k dn fa s:K):126 P 38 mB ⟨mC 1 b k [0e8] fa s,8e1,[]⟩= 57 ⟨mC 2 1e2 k [33e8,0e8] fa s,dK (dn+1),[]⟩ (287 2):=av
def adg(P:PP)(b:MB)(k dn fa s:K):126 P 38 mB ⟨mC 2 b k [33e8,0e8] fa s,8e1,[240 84 (326 s b.fc)]⟩= 57 ⟨mC 3 1e2 k [2 (326 s b.fc)] fa s,dK (dn+1),[]⟩ [58 P 33 84 [2 (s+b.fc),17e2] (326 s b.fc),1<=16777216]:=av
def adh(P:PP)(b:MB)(k:I)(dn x fa s:K):126 P 38 mB ⟨mC 3 b (k+1) [6e6] fa s,8e1,[1e9]⟩= 57 ⟨28 62 hj [3e7] (k+1) [6e0] b.g 1e2 [.au [6e6],6e4,6e4,vp 63 64 67 4 fa s,vr,2e0],dK (dn+1),[]⟩ [iV b k false]:=av
def QO(P:PP)(sh:Sh)(b:MB)(k:K)(au:0e0)(dn:K):apy P 9 38 (.t rU) ⟨ja sh b k au,8e1,[]⟩= 125 6e7 ⟨ja sh b k au,8e1,[]⟩:=by revert sh;show 4e3;kernel_rfl
def Bc(P:PP)(jG:K)(b:MB)(k:K)(au:0e0)(fa s dn:K):apy P 9 38 (.t rU) ⟨mC jG b k au fa s,8e1,[]⟩= 125 6e7 ⟨mC jG b k au fa s,8e1,[]⟩:=av
def Bd(P:PP)(S:I)(s:5e6)(k:K)(e h:0e0)(x:al)(b:MB)(aD:1e0)(dn:K):apy P 9 38 (.t rU) ⟨dE S s [] k e h x b aD,8e1,[]⟩= 125 1e9 ⟨dE S s [] k e h x b aD,8e1,[]⟩:=av
def qH:D S:=match Qj.cX with
 | [_,.mw _ _ b,_]=>b
 |_=>[]
def b2(b:MB):0e1:=[(98,6e3),(38,6 b.B),(141,49e0),(132,10e6)]
def jS:D K:=[16,17,32,35,36,37,38,40,41,44,45,46,47,48,49,50,51,52,53,54,55,58,59,60,61,62,63,64,65,66,208,209,210,64520,64521,64522,64523,64524,64525,64526,64527,64528,64529]
abbrev xO(P:PP)(b:MB)(bx:V)(au:0e0)(v:V)(O:1e0):Prop:=P 39 (22 1448 [6e3,bx,10e6,49e0]) (373 1e2) (1e7++[(131,bx)]) (36 v O (1e7++[(131,bx)]))
def QP(P:PP)(b b':MB)(oc:0e0)(au b7:0e0)(aD:0e0)(c:K)(h:c∈jS):126 P 39 qH ⟨30e4,1e7++[(131,.X (1e5::aD))],[262 1448 0e6 (85 b' oc b7)]⟩= 57 ⟨85 b' oc b7,1e7++[(131,.X (1e5::aD)),(58,0e6)],[]⟩ [xO P b (.X (1e5::aD)) au 0e6 (85 b' oc b7)]:=by revert c h;show 3e1;kernel_rfl
def adi(P:PP)(b b':MB)(oc:0e0)(au b7:0e0)(aD:0e0)(z:am)(c:K)(h:c∈19::jS):126 P 39 qH ⟨30e4,1e7++[(131,.X (1e5::aD))],[262 1448 7e8 (85 b' oc b7)]⟩= .aT (307 [.ag rK,7e8]) ⟨85 b' oc b7,1e7++[(131,.X (1e5::aD)),(58,7e8)],[]⟩ [xO P b (.X (1e5::aD)) au 7e8 (85 b' oc b7)]:=by revert c h;show 3e1;kernel_rfl
def adj(P:PP)(b b':MB)(oc:0e0)(au b7:0e0)(aD:0e0)(c:K)(h:c=16\/c=17):126 P 39 qH ⟨30e4,1e7++[(131,.X (1e5::aD))],[262 1448 0e6 (dc b' oc (.X [25e3,14e5]) b7)]⟩= .aT (307 [25e3,14e5]) ⟨dc b' oc (.X [25e3,14e5]) b7,1e7++[(131,.X (1e5::aD)),(58,0e6)],[]⟩ [xO P b (.X (1e5::aD)) au 0e6 (dc b' oc (.X [25e3,14e5]) b7)]:=by
 rcases h with H|rfl<;>kernel_rfl
def adk(P:PP)(b b':MB)(oc:0e0)(au:0e0)(aD:0e0):126 P 39 qH ⟨30e4,1e7++[(131,.X (8e3::aD))],[262 1448 0e6 (85 b' oc [])]⟩= .aT (307 [28e7,5e7]) ⟨85 b' oc [],1e7++[(131,.X (8e3::aD)),(58,0e6)],[]⟩ [xO P b (.X (8e3::aD)) au 0e6 (85 b' oc [])]:=av
def adl(P:PP)(b:MB):126 P 39 qH ⟨35e6,1e7++[(131,.X [21e2])],[]⟩= 125 (307 [28e7,5e7]) ⟨119 1e2,1e7++[(131,.X [21e2])],[]⟩:=av
def xP:D K:=[40,41,44,45,46,47,48,49,50,51,52,53]
def Kt:D K:=[54,58,59]
def Ku:D K:=[55,60,61,62]
def vu(c:K):K:=if c=41 then 2 else if c<48 then 1 else 2
def iC(r:2e9):2e9:=match r with
 | .aT a F ob=> .aT a ⟨F.O.fI 1,F.T,F.bG⟩ ob
 |r=>r
def adm(P:PP)(d:I)(O:1e0)(T:0e1)(a n:K)(u:al):114 1 1344 [0e2] [.v (.y n u)]= 93 (.y n u) O [9 a 1000=true,9 a 8=true,(dq [0e7,1e3,12e9,0 2147483647,0 (-2147483648),0 255,0 (-129),2 (a.ah 1000)] 20e0)=G (.y n u)]:=av
def adn(P:PP)(d:I)(O:1e0)(T:0e1)(b:K):114 1 1351 [1e3,2 b] [6e7]= 155 [.X [28e8,0e7]] O [9 b 2=true,((b.ah 2)==0)=true]:=av
def ado(P:PP)(d:I)(O:1e0)(T:0e1)(b:K):114 1 1351 [1e3,2 b] [1e9]= 155 [.X [0 208,34e8]] O [9 b 2=true,((b.ah 2)==0)=false]:=av
def adp(P:PP)(d:I)(O:1e0)(T:0e1)(t b:K):114 1 1351 [2 t,2 b] [1e9,6e7]= 155 [.X [0 208,27e3]] O [(t==1)=false,9 b 3=true,((b.ah 3)==0)=true]:=av
def adq(P:PP)(d:I)(O:1e0)(T:0e1)(t b:K):114 1 1351 [2 t,2 b] [1e9,1e9]= 155 [.X [0 210,38 (b.aL 3) 6]] O [(t==1)=false,9 b 3=true,((b.ah 3)==0)=false,15 b 3=true,9 (b.aL 3) 6=true]:=av
def t_three(P:PP)(d:I)(O:1e0)(T:0e1)(a m:K):114 1 1358 [0e2,2 m] []= 155 [.X [5e8,2 (a.ah m)],.X [5e8,38 (a.aL m) m],.X [5e8,38 (a.aL (m^2)) 8]] O [9 a m=true,15 a m=true,9 (a.aL m) m=true,a9 .kN m 2=true,15 a (m^2)=true,9 (a.aL (m^2)) 8=true]:=av
def t_o4(P:PP)(d:I)(O:1e0)(T:0e1)(a:K):114 2 1363 [10e8,0e2] []= 155 [.X [0 63],.X [4e0,1e3]] O []:=av
def t_o5(P:PP)(d:I)(O:1e0)(T:0e1)(a n:K)(u:al):114 2 1363 [3e8,0e2] [.v (.y n u)]= 155 [.X [5e8,.y n u],.X [17e2],.X [4e0,1e3]] O [9 a 4=true,(dq [0e7,1e3,1e8,12e9] 38e0)=G (.y n u)]:=av
def t_o6(P:PP)(d:I)(O:1e0)(T:0e1)(a:K):114 2 1363 [0 6,0e2] []= 155 [.X [5e8,2 (a.ah 18)],.X [5e8,2 (((a.aL 18).ah 700)-100)],.X [5e8,38 (a.aL 12600) 7],.X [16e1]] O [9 a 18=true,15 a 18=true,9 (a.aL 18) 700=true,15 a 12600=true,9 (a.aL 12600) 7=true]:=av
def t_o7(P:PP)(d:I)(O:1e0)(T:0e1)(a:K)(r s t:V):114 2 1363 [16e9,0e2] [306 1358 [r,s,t]]= 140 [r,s,t,.X [20e8]] O [cw P (d+1) 1358 [0e2,0 18] (6 [r,s,t]),4<=16777216]:=av
def t_o8(P:PP)(d:I)(O:1e0)(T:0e1)(a:K)(r s t:V):114 2 1363 [0 8,0e2] [306 1358 [r,s,t]]= 140 [r,s,t,.X [8e6,2 21e1]] O [15 a 2=true,cw P (d+1) 1358 [2 (a.aL 2),4e1] (6 [r,s,t]),9 a 2=true,4<=16777216]:=av
def t_o9(P:PP)(d:I)(O:1e0)(T:0e1)(a:K):114 2 1363 [0 9,0e2] []= 155 [.X [48e7,2 21e1]] O [9 a 2=true]:=av
def t_ol(P:PP)(hd:d=0\/d=1)(s:c∈xP)(T:0e1)(B:0e0)(ft:al)(a:K):iC (153 P 60 38 1363 [0 d,0e2] [5e0] [.v 1e5])= 155 [.X [5e8,38 (a.aL 12) 17],.X [1e5,0e7,38 ((a.aL 12).aL 17) 3],.X [4e0,0 (vu c)]] [5e0] [9 a 12=true,(dq [0 40,0 41,0 44,0 45,0 46,0 47,0 48,0 49,0 50,0 51,0 52,0 53] 12e7)=G 1e5,15 a 12=true,9 (a.aL 12) 17=true,15 (a.aL 12) 17=true,9 ((a.aL 12).aL 17) 3=true]:=by
 revert s;generalize c=z;revert z;rcases hd with H|rfl<;>(apply D.gH.mp;kernel_rfl)
def t_os(P:PP)(hd:d=2\/d=3)(s:c∈Kt)(T:0e1)(B:0e0)(ft:al)(a n:K):iC (153 P 60 38 1363 [0 d,0e2] [5e0] [.v 1e5,229 1344 0e3])= 155 [.X [5e8,38 12e1 17],.X [5e8,0e3],.X [1e5,0e7,38 ((12e1).aL 17) 2]] [5e0] [9 a 7=true,(dq [0 54,0 55,0 58,0 59,0 60,0 61,0 62] 19e9)=G 1e5,15 a 7=true,15 12e1 34=true,cw P 37 1344 [2 ((12e1).aL 34)] 0e3,9 12e1 17=true,15 12e1 17=true,9 ((12e1).aL 17) 2=true]:=by
 revert s;generalize c=z;revert z;rcases hd with H|rfl<;>(apply D.gH.mp;kernel_rfl)
def t_ou(P:PP)(hd:d=2\/d=3)(s:c∈Ku)(T:0e1)(B:0e0)(ft:al)(a n:K)(m:K)(u:al):iC (153 P 60 38 1363 [0 d,0e2] [5e0] [.v 1e5,229 1344 0e3,.v (.y m u)])= 155 [.X [5e8,38 12e1 17],.X [21e4,.y m u],.X [1e5,0e7,38 ((12e1).aL 17) 2]] [5e0] [9 a 7=true,(dq [0 54,0 55,0 58,0 59,0 60,0 61,0 62] 19e9)=G 1e5,15 a 7=true,15 12e1 34=true,cw P 37 1344 [2 ((12e1).aL 34)] 0e3,9 12e1 3=true,(dq [0e3,2 ((9223372036854775807:K)-12e1),2 ((-9223372036854775808:K)+12e1)] ((12e1).ah 3))=G (.y m u),9 12e1 17=true,15 12e1 17=true,9 ((12e1).aL 17) 2=true]:=by
 revert s;generalize c=z;revert z;rcases hd with H|rfl<;>(apply D.gH.mp;kernel_rfl)
def t_e12_0(P:PP)(d:I)(O:1e0)(T:0e1)(a:K):114 2 1370 [0 12,0e2] [6e7]= 155 [.X [5e8,38 16e2 8],.X [38e1,39e3],.X [4e0,10e8]] O [9 a 3=true,15 a 3=true,9 16e2 8=true,(8e2==1)=true]:=av
def t_e12_1(P:PP)(d:I)(O:1e0)(T:0e1)(a:K):114 2 1370 [0 12,0e2] [1e9]= 155 [.X [5e8,38 16e2 8],.X [38e1,39e3],.X [4e0,3e4]] O [9 a 3=true,15 a 3=true,9 16e2 8=true,(8e2==1)=false]:=av
def t_e13(P:PP)(d:I)(O:1e0)(T:0e1)(a:K)(r:V):114 2 1370 [0 13,0e2] [306 1351 [r]]= 140 [.X [5e8,38 16e2 8],r,.X [0 38,39e3]] O [9 a 3=true,15 a 3=true,9 16e2 8=true,15 16e2 8=true,cw P (d+1) 1351 [39e3,2 (25e9 8)] (6 [r]),2<=16777216,3<=16777216]:=av
def t_e14(P:PP)(d:I)(O:1e0)(T:0e1)(a:K):114 2 1370 [0 14,0e2] []= 155 [.X [48e8,39e3],.X [4e0,1e3]] O [9 a 3=true,15 a 3=true]:=av
def t_e15(P:PP)(d:I)(O:1e0)(T:0e1)(a n:K)(u:al)(r:V):114 2 1370 [0 15,0e2] [306 1351 [r],.v (.y n u)]= 140 [r,.X [5e8,.y n u],.X [39e2,39e3],.X [4e0,1e3]] O [9 a 3=true,15 a 3=true,cw P (d+1) 1351 [39e3,2 16e2] (6 [r]),15 16e2 18=true,9 (25e9 18) 5=true,(dq [0e7,1e3,1e8,3e4,12e9] ((25e9 18).ah 5))=G (.y n u),4<=16777216]:=av
def t_e16(P:PP)(d:I)(O:1e0)(T:0e1)(a:K)(r:V):114 2 1370 [4e0,0e2] [306 1351 [r]]= 140 [.X [5e8,38 16e2 6],r,.X [5e8,38 (25e9 108) 5],.X [33e6,39e3]] O [9 a 3=true,15 a 3=true,9 16e2 6=true,15 16e2 6=true,cw P (d+1) 1351 [39e3,2 (25e9 6)] (6 [r]),2<=16777216,15 16e2 108=true,9 (25e9 108) 5=true,4<=16777216]:=av
def t_e17(P:PP)(d:I)(O:1e0)(T:0e1)(a x app:K)(r s t:V):114 2 1370 [4e1,0e2] [.v (.X [0 x,17e1]),306 1358 [r,s,t]]= 140 [r,s,t,.X [28e5,0 x,17e1]] O [9 a 3=true,15 a 3=true,9 a 5=true,(dq [.X [0e7,1e8],.X [1e8,0e7],.X [0e7,0e7],.X [1e3,1e3],.X [1e8,1e8]] 31e8)=G (.X [0 x,17e1]),15 a 5=true,cw P (d+1) 1358 [2 (a.aL 5),0 6] (6 [r,s,t]),4<=16777216]:=av
def t_e18(P:PP)(d:I)(O:1e0)(T:0e1)(a x app:K)(r s t:V):114 2 1370 [0 18,0e2] [.v (.X [0 x,17e1]),306 1358 [r,s,t]]= 140 [r,s,t,.X [8e7,0 x,17e1]] O [9 a 3=true,15 a 3=true,(dq [.X [0e7,0e7],.X [0e7,1e8],.X [1e3,1e3]] 8e2)=G (.X [0 x,17e1]),cw P (d+1) 1358 [2 16e2,0 6] (6 [r,s,t]),4<=16777216]:=av
def t_e19(P:PP)(d:I)(O:1e0)(T:0e1)(a:K):114 2 1370 [8e3,0e2] []= 155 [.X [48e9,2 21e1]] O [9 a 3=true,15 a 3=true,9 a 2=true]:=av
def t_do(P:PP)(T:0e1)(B:0e0)(ft:al)(x:K)(s:0e0):iC (153 P 60 39 1377 [6e6] [5e0] [6e7,262 1363 (6 s) [5e0]])= 140 s [5e0] [9 x 24=true,15 x 24=true,bM (7e6<10)=true,P 38 (22 1363 [49e6,36e7]) [5e0] [(0,6e6),(79,49e6),(76,36e7)] (36 (6 s) [5e0] [(0,6e6),(79,49e6),(76,36e7)])]:=av
def Kv(P:PP)(T:0e1)(B:0e0)(ft:al)(x:K):iC (153 P 60 39 1377 [6e6] [5e0] [1e9,6e7])= 155 [.X [16e3,38 30e6 3],.X [4e0,2 ((1:K)+(19e0 3))]] [5e0] [9 x 24=true,15 x 24=true,bM (7e6<10)=false,41e1=true,271 3=true,271 3=true]:=av
def t_d11_0(P:PP)(T:0e1)(B:0e0)(ft:al)(x:K)(n:K)(r:V):iC (153 P 60 39 1377 [6e6] [5e0] [1e9,1e9,6e7,6e7,306 1351 [r]])= 140 [r,.X [21e3,38 30e6 3]] [5e0] [9 x 24=true,15 x 24=true,bM (7e6<10)=false,41e1=false,44e1=true,271 3=true,((19e0 3)==2)=true,216 3=true,cw P 38 1351 [0e7,329 3] (6 [r]),271 3=true,2<=16777216]:=av
def QQ(P:PP)(T:0e1)(B:0e0)(ft:al)(x:K)(n:K)(r:V):iC (153 P 60 39 1377 [6e6] [5e0] [1e9,1e9,6e7,1e9,229 1344 0e3])= 140 [.X [2 ((65:K)+(19e0 3)),0e3],.X [21e3,38 30e6 3]] [5e0] [9 x 24=true,15 x 24=true,bM (7e6<10)=false,41e1=false,44e1=true,271 3=true,((19e0 3)==2)=false,271 3=true,216 3=true,cw P 38 1344 [329 3] 0e3,271 3=true,2<=16777216]:=av
def t_de(P:PP)(T:0e1)(B:0e0)(ft:al)(x:K)(s:0e0):iC (153 P 60 39 1377 [6e6] [5e0] [1e9,1e9,1e9,6e7,262 1370 (6 s) [5e0]])= 140 s [5e0] [9 x 24=true,15 x 24=true,bM (7e6<10)=false,41e1=false,44e1=false,bM (7e6<20)=true,P 38 (22 1370 [49e6,36e7]) [5e0] [(0,6e6),(79,49e6),(76,36e7)] (36 (6 s) [5e0] [(0,6e6),(79,49e6),(76,36e7)])]:=av
def t_d20(P:PP)(T:0e1)(B:0e0)(ft:al)(x:K)(r:V):iC (153 P 60 39 1377 [6e6] [5e0] [1e9,1e9,1e9,1e9,6e7,306 1351 [r]])= 140 [r,.X [43e0],.X [4e0,1e3]] [5e0] [9 x 24=true,15 x 24=true,bM (7e6<10)=false,41e1=false,44e1=false,bM (7e6<20)=false,(7e6==20)=true,271 2=true,216 2=true,cw P 38 1351 [38 30e6 2,329 2] (6 [r]),3<=16777216]:=av
def t_d23(P:PP)(T:0e1)(B:0e0)(ft:al)(x:K)(n m:K):iC (153 P 60 39 1377 [6e6] [5e0] [1e9,1e9,1e9,1e9,1e9,229 1344 0e3,240 1344 m,6e7])= 140 [.X [5e8,0e3],.X [21e4,2 m],.X [4e0,3e8],.X [4e0,1e8]] [5e0] [9 x 24=true,15 x 24=true,bM (7e6<10)=false,41e1=false,44e1=false,bM (7e6<20)=false,(7e6==20)=false,cw P 38 1344 [36e7] 0e3,216 8=true,58 P 38 1344 [329 8] m,(7e6==23)=true,4<=16777216]:=av
def QR(P:PP)(T:0e1)(B:0e0)(ft:al)(x:K)(n m t:K):iC (153 P 60 39 1377 [6e6] [5e0] [1e9,1e9,1e9,1e9,1e9,229 1344 0e3,240 1344 m,1e9,.v 1e3,.v 1e1])= 140 [.X [5e8,0e3],.X [5e8,38 (11e4 8) 8],.X [4e1,1e3,1e1]] [5e0] [9 x 24=true,15 x 24=true,bM (7e6<10)=false,41e1=false,44e1=false,bM (7e6<20)=false,(7e6==20)=false,cw P 38 1344 [36e7] 0e3,216 8=true,58 P 38 1344 [329 8] m,(7e6==23)=false,271 4=true,(dq [3e8,3e8,1e3,1e8] (19e0 4))=G 1e3,216 8=true,9 (11e4 8) 8=true,216 4=true,9 (11e4 4) 2=true,(dq [0e7,1e8] ((11e4 4).ah 2))=G 1e1,3<=16777216,3<=16777216]:=av
def QS(P:PP)(T:0e1)(B:0e0)(ft:al)(x:K)(n m t:K):iC (153 P 60 39 1377 [6e6] [5e0] [1e9,1e9,1e9,1e9,1e9,229 1344 0e3,240 1344 m,1e9,.v 1e8,.v 1e1])= 140 [.X [21e4,2 m],.X [5e8,38 (11e4 8) 8],.X [4e1,1e8,1e1]] [5e0] [9 x 24=true,15 x 24=true,bM (7e6<10)=false,41e1=false,44e1=false,bM (7e6<20)=false,(7e6==20)=false,cw P 38 1344 [36e7] 0e3,216 8=true,58 P 38 1344 [329 8] m,(7e6==23)=false,271 4=true,(dq [3e8,3e8,1e3,1e8] (19e0 4))=G 1e8,216 8=true,9 (11e4 8) 8=true,216 4=true,9 (11e4 4) 2=true,(dq [0e7,1e8] ((11e4 4).ah 2))=G 1e1,3<=16777216,3<=16777216]:=av
def Be(P:PP)(T:0e1)(B:0e0)(ft:al)(x:K)(n m t:K):iC (153 P 60 39 1377 [6e6] [5e0] [1e9,1e9,1e9,1e9,1e9,229 1344 0e3,240 1344 m,1e9,.v 3e8,.v 1e1])= 140 [.X [5e8,0e3],.X [21e4,2 m],.X [5e8,38 (11e4 8) 8],.X [4e1,3e8,1e1],.X [4e0,1e8]] [5e0] [9 x 24=true,15 x 24=true,bM (7e6<10)=false,41e1=false,44e1=false,bM (7e6<20)=false,(7e6==20)=false,cw P 38 1344 [36e7] 0e3,216 8=true,58 P 38 1344 [329 8] m,(7e6==23)=false,271 4=true,(dq [3e8,3e8,1e3,1e8] (19e0 4))=G 3e8,216 8=true,9 (11e4 8) 8=true,216 4=true,9 (11e4 4) 2=true,(dq [0e7,1e8] ((11e4 4).ah 2))=G 1e1,4<=16777216,5<=16777216]:=av
universe e
section
open PySem PySem.W PyProof.Rows
set_option backward.match.sparseCases false
def ba(h:(a&&b)=true):a=true/\b=true:=al.nM.mp h
def dt{c:Prop}[i:rg c]{f:c->al}(h:(if h:c then f h else false)=true):∃s,f s=true:=by
 cases i with
 |sV s=>exact⟨s,h⟩
 |isFalse s=>cases h
def kh{α:Type}(l:8e4):al:=match l with
 | []=>true
 |_::_=>false
@[elab_as_elim] def ki {α:Type} {C:D α->Prop} {l:D α} (h:kh l=true) (g:C []):C l:=by
 cases l with
 |aR=>exact g
 |aQ=>cases h
def lu{α:Type}(l:8e4)(p:α->8e4->al):al:=match l with
 | []=>false
 |a::l=>p a l
@[elab_as_elim] def lW {α:Type} {C:D α->Prop} {p} {l:D α} (h:lu l p=true) (g:∀a l,p a l=true->C (a::l)):C l:=by
 cases l with
 |aR=>cases h
 |aQ a l=>exact g a l h
def lv{α:Type}(o:29e4)(p:α->al):al:=match o with
 |L=>false
 |G a=>p a
@[elab_as_elim] def pN {α:Type} {C:ar α->Prop} {p} {o:ar α} (h:lv o p=true) (g:∀a,p a=true->C (G a)):C o:=by
 cases o with
 |L=>cases h
 |G a=>exact g a h
def vv{α:Type}(o:29e4):al:=match o with
 |L=>true
 |G _=>false
@[elab_as_elim] def xQ {α:Type} {C:ar α->Prop} {o:ar α} (h:vv o=true) (g:C L):C o:=by
 cases o with
 |L=>exact g
 |G=>cases h
def rY{α:Type}(l:8e4)(p:α->al):al:=lu l λa l=>p a&&kh l
@[elab_as_elim] def tF {α:Type} {C:D α->Prop} {p} {l:D α} (h:rY l p=true) (g:∀a,p a=true->C [a]):C l:=
 lW h λa s h=>ki (C:=λl=>C (a::l)) (ba h).2 (g a (ba h).1)
def xR(E:PySem.a0):=λp=>if h:E.cf=0 then @PySem.a0.pO.ak 7e7 E h p else false
@[elab_as_elim] def Bf {E p} {C:PySem.a0->Prop} (h:xR E p=true) (g:∀a b c,p a b c=true->C (.pO a b c)):C E:=(dt h).ak λc=> @PySem.a0.pO.ak (λE=>∀c:E.cf=0,@PySem.a0.pO.ak (λs=>al) E c p=true->C E) E c (λa b c s=>g a b c) c
def QT(E:PySem.a0):=λp=>if h:E.cf=2 then @PySem.a0.Bg.ak 7e7 E h p else false
@[elab_as_elim] def eBinOp_ {E p} {C:PySem.a0->Prop} (h:QT E p=true) (g:∀a b c d,p a b c d=true->C (.Bg a b c d)):C E:=(dt h).ak λc=> @PySem.a0.Bg.ak (λE=>∀c:E.cf=2,@PySem.a0.Bg.ak (λs=>al) E c p=true->C E) E c (λa b c d s=>g a b c d) c
def Bh(E:PySem.a0):=λp=>if h:E.cf=3 then @PySem.a0.rZ.ak 7e7 E h p else false
@[elab_as_elim] def Kw {E p} {C:PySem.a0->Prop} (h:Bh E p=true) (g:∀a b c,p a b c=true->C (.rZ a b c)):C E:=(dt h).ak λc=> @PySem.a0.rZ.ak (λE=>∀c:E.cf=3,@PySem.a0.rZ.ak (λs=>al) E c p=true->C E) E c (λa b c s=>g a b c) c
def Kx(E:PySem.a0):=λp=>if h:E.cf=5 then @PySem.a0.vw.ak 7e7 E h p else false
@[elab_as_elim] def QU {E p} {C:PySem.a0->Prop} (h:Kx E p=true) (g:∀a b c d,p a b c d=true->C (.vw a b c d)):C E:=(dt h).ak λc=> @PySem.a0.vw.ak (λE=>∀c:E.cf=5,@PySem.a0.vw.ak (λs=>al) E c p=true->C E) E c (λa b c d s=>g a b c d) c
def QV(E:PySem.a0):=λp=>if h:E.cf=6 then @PySem.a0.Bi.ak 7e7 E h p else false
@[elab_as_elim] def eDict_ {E p} {C:PySem.a0->Prop} (h:QV E p=true) (g:∀a b c,p a b c=true->C (.Bi a b c)):C E:=(dt h).ak λc=> @PySem.a0.Bi.ak (λE=>∀c:E.cf=6,@PySem.a0.Bi.ak (λs=>al) E c p=true->C E) E c (λa b c s=>g a b c) c
def Bj(E:PySem.a0):=λp=>if h:E.cf=8 then @PySem.a0.gW.ak 7e7 E h p else false
@[elab_as_elim] def adr {E p} {C:PySem.a0->Prop} (h:Bj E p=true) (g:∀a b c d,p a b c d=true->C (.gW a b c d)):C E:=(dt h).ak λc=> @PySem.a0.gW.ak (λE=>∀c:E.cf=8,@PySem.a0.gW.ak (λs=>al) E c p=true->C E) E c (λa b c d s=>g a b c d) c
def Ky(E:PySem.a0):=λp=>if h:E.cf=15 then @PySem.a0.vx.ak 7e7 E h p else false
@[elab_as_elim] def QW {E p} {C:PySem.a0->Prop} (h:Ky E p=true) (g:∀a b c d,p a b c d=true->C (.vx a b c d)):C E:=(dt h).ak λc=> @PySem.a0.vx.ak (λE=>∀c:E.cf=15,@PySem.a0.vx.ak (λs=>al) E c p=true->C E) E c (λa b c d s=>g a b c d) c
def xS(E:PySem.a0):=λp=>if h:E.cf=16 then @PySem.a0.jT.ak 7e7 E h p else false
@[elab_as_elim] def Kz {E p} {C:PySem.a0->Prop} (h:xS E p=true) (g:∀a b c d,p a b c d=true->C (.jT a b c d)):C E:=(dt h).ak λc=> @PySem.a0.jT.ak (λE=>∀c:E.cf=16,@PySem.a0.jT.ak (λs=>al) E c p=true->C E) E c (λa b c d s=>g a b c d) c
def KA(E:PySem.a0):=λp=>if h:E.cf=19 then @PySem.a0.r0.ak 7e7 E h p else false
@[elab_as_elim] def QX {E p} {C:PySem.a0->Prop} (h:KA E p=true) (g:∀a b c,p a b c=true->C (.r0 a b c)):C E:=(dt h).ak λc=> @PySem.a0.r0.ak (λE=>∀c:E.cf=19,@PySem.a0.r0.ak (λs=>al) E c p=true->C E) E c (λa b c s=>g a b c) c
def xT(E:PySem.a0):=λp=>if h:E.cf=20 then @PySem.a0.kP.ak 7e7 E h p else false
@[elab_as_elim] def Bk {E p} {C:PySem.a0->Prop} (h:xT E p=true) (g:∀a b c,p a b c=true->C (.kP a b c)):C E:=(dt h).ak λc=> @PySem.a0.kP.ak (λE=>∀c:E.cf=20,@PySem.a0.kP.ak (λs=>al) E c p=true->C E) E c (λa b c s=>g a b c) c
def xU(E:PySem.a0):=λp=>if h:E.cf=21 then @PySem.a0.qI.ak 7e7 E h p else false
@[elab_as_elim] def Bl {E p} {C:PySem.a0->Prop} (h:xU E p=true) (g:∀a b c,p a b c=true->C (.qI a b c)):C E:=(dt h).ak λc=> @PySem.a0.qI.ak (λE=>∀c:E.cf=21,@PySem.a0.qI.ak (λs=>al) E c p=true->C E) E c (λa b c s=>g a b c) c
def m6(E:PySem.a0):=λp=>if h:E.cf=23 then @PySem.a0.dr.ak 7e7 E h p else false
@[elab_as_elim] def oS {E p} {C:PySem.a0->Prop} (h:m6 E p=true) (g:∀a b,p a b=true->C (.dr a b)):C E:=(dt h).ak λc=> @PySem.a0.dr.ak (λE=>∀c:E.cf=23,@PySem.a0.dr.ak (λs=>al) E c p=true->C E) E c (λa b s=>g a b) c
def eList(E:PySem.a0):=λp=>if h:E.cf=24 then @PySem.a0.D.ak 7e7 E h p else false
@[elab_as_elim] def ads {E p} {C:PySem.a0->Prop} (h:eList E p=true) (g:∀a b,p a b=true->C (.D a b)):C E:=(dt h).ak λc=> @PySem.a0.D.ak (λE=>∀c:E.cf=24,@PySem.a0.D.ak (λs=>al) E c p=true->C E) E c (λa b s=>g a b) c
def tG(E:PySem.a0):=λp=>if h:E.cf=25 then @PySem.a0.kj.ak 7e7 E h p else false
@[elab_as_elim] def tH {E p} {C:PySem.a0->Prop} (h:tG E p=true) (g:∀a b c,p a b c=true->C (.kj a b c)):C E:=(dt h).ak λc=> @PySem.a0.kj.ak (λE=>∀c:E.cf=25,@PySem.a0.kj.ak (λs=>al) E c p=true->C E) E c (λa b c s=>g a b c) c
def KB(E:PySem.a0):=λp=>if h:E.cf=26 then @PySem.a0.r6.ak 7e7 E h p else false
@[elab_as_elim] def QY {E p} {C:PySem.a0->Prop} (h:KB E p=true) (g:∀a b c d,p a b c d=true->C (.r6 a b c d)):C E:=(dt h).ak λc=> @PySem.a0.r6.ak (λE=>∀c:E.cf=26,@PySem.a0.r6.ak (λs=>al) E c p=true->C E) E c (λa b c d s=>g a b c d) c
def KD(E:cn):=λp=>if h:E.cf=3 then @cn.pP.ak 7e7 E h p else false
@[elab_as_elim] def KE {E p} {C:cn->Prop} (h:KD E p=true) (g:∀a b,p a b=true->C (.pP a b)):C E:=(dt h).ak λc=> @cn.pP.ak (λE=>∀c:E.cf=3,@cn.pP.ak (λs=>al) E c p=true->C E) E c (λa b s=>g a b) c
def QZ(E:cn):=λp=>if h:E.cf=5 then @cn.pQ.ak 7e7 E h p else false
@[elab_as_elim] def adt {E p} {C:cn->Prop} (h:QZ E p=true) (g:∀a b c,p a b c=true->C (.pQ a b c)):C E:=(dt h).ak λc=> @cn.pQ.ak (λE=>∀c:E.cf=5,@cn.pQ.ak (λs=>al) E c p=true->C E) E c (λa b c s=>g a b c) c
def Q0(E:cn):=λp=>if h:E.cf=9 then @cn.For.ak 7e7 E h p else false
@[elab_as_elim] def adu {E p} {C:cn->Prop} (h:Q0 E p=true) (g:∀a b c d e,p a b c d e=true->C (.For a b c d e)):C E:=(dt h).ak λc=> @cn.For.ak (λE=>∀c:E.cf=9,@cn.For.ak (λs=>al) E c p=true->C E) E c (λa b c d e s=>g a b c d e) c
def Q1(E:cn):=λp=>if h:E.cf=11 then @cn.Bm.ak 7e7 E h p else false
@[elab_as_elim] def Q2 {E p} {C:cn->Prop} (h:Q1 E p=true) (g:∀a b c d,p a b c d=true->C (.Bm a b c d)):C E:=(dt h).ak λc=> @cn.Bm.ak (λE=>∀c:E.cf=11,@cn.Bm.ak (λs=>al) E c p=true->C E) E c (λa b c d s=>g a b c d) c
def Q4(E:cn):=λp=>if h:E.cf=12 then @cn.If.ak 7e7 E h p else false
@[elab_as_elim] def adv {E p} {C:cn->Prop} (h:Q4 E p=true) (g:∀a b c d,p a b c d=true->C (.If a b c d)):C E:=(dt h).ak λc=> @cn.If.ak (λE=>∀c:E.cf=12,@cn.If.ak (λs=>al) E c p=true->C E) E c (λa b c d s=>g a b c d) c
def Q5(E:cn):=λp=>if h:E.cf=16 then @cn.Bn.ak 7e7 E h p else false
@[elab_as_elim] def adw {E p} {C:cn->Prop} (h:Q5 E p=true) (g:∀a b c,p a b c=true->C (.Bn a b c)):C E:=(dt h).ak λc=> @cn.Bn.ak (λE=>∀c:E.cf=16,@cn.Bn.ak (λs=>al) E c p=true->C E) E c (λa b c s=>g a b c) c
def KF(E:cn):=λp=>if h:E.cf=17 then @cn.Try.ak 7e7 E h p else false
@[elab_as_elim] def Q6 {E p} {C:cn->Prop} (h:KF E p=true) (g:∀a b c d e,p a b c d e=true->C (.Try a b c d e)):C E:=(dt h).ak λc=> @cn.Try.ak (λE=>∀c:E.cf=17,@cn.Try.ak (λs=>al) E c p=true->C E) E c (λa b c d e s=>g a b c d e) c
def Q7(E:cn):=λp=>if h:E.cf=24 then @cn.a0.ak 7e7 E h p else false
@[elab_as_elim] def adx {E p} {C:cn->Prop} (h:Q7 E p=true) (g:∀a b,p a b=true->C (.a0 a b)):C E:=(dt h).ak λc=> @cn.a0.ak (λE=>∀c:E.cf=24,@cn.a0.ak (λs=>al) E c p=true->C E) E c (λa b s=>g a b) c
def Q8(E:cn):=λp=>if h:E.cf=25 then @cn.uJ.ak 7e7 E h p else false
@[elab_as_elim] def ady {E p} {C:cn->Prop} (h:Q8 E p=true) (g:∀a,p a=true->C (.uJ a)):C E:=(dt h).ak λc=> @cn.uJ.ak (λE=>∀c:E.cf=25,@cn.uJ.ak (λs=>al) E c p=true->C E) E c (λa s=>g a) c
def xc(E:apw):=λp=>if h:E.cf=0 then @apw.c.ak 7e7 E h p else false
@[elab_as_elim] def xc_ {E p} {C:apw->Prop} (h:xc E p=true) (g:∀a,p a=true->C (.c a)):C E:=(dt h).ak λc=> @apw.c.ak (λE=>∀c:E.cf=0,@apw.c.ak (λs=>al) E c p=true->C E) E c (λa s=>g a) c
def xl(E:apw):=λp=>if h:E.cf=1 then @apw.l.ak 7e7 E h p else false
@[elab_as_elim] def xl_ {E p} {C:apw->Prop} (h:xl E p=true) (g:∀a,p a=true->C (.l a)):C E:=(dt h).ak λc=> @apw.l.ak (λE=>∀c:E.cf=1,@apw.l.ak (λs=>al) E c p=true->C E) E c (λa s=>g a) c
def xg(E:apw):=λp=>if h:E.cf=4 then @apw.g.ak 7e7 E h p else false
@[elab_as_elim] def xg_ {E p} {C:apw->Prop} (h:xg E p=true) (g:∀a,p a=true->C (.g a)):C E:=(dt h).ak λc=> @apw.g.ak (λE=>∀c:E.cf=4,@apw.g.ak (λs=>al) E c p=true->C E) E c (λa s=>g a) c
def Q9(E:apw):=λp=>if h:E.cf=5 then @apw.eZ.ak 7e7 E h p else false
@[elab_as_elim] def adz {E p} {C:apw->Prop} (h:Q9 E p=true) (g:∀a b,p a b=true->C (.eZ a b)):C E:=(dt h).ak λc=> @apw.eZ.ak (λE=>∀c:E.cf=5,@apw.eZ.ak (λs=>al) E c p=true->C E) E c (λa b s=>g a b) c
def Ra(E:apw):=λp=>if h:E.cf=15 then @apw.X.ak 7e7 E h p else false
@[elab_as_elim] def adA {E p} {C:apw->Prop} (h:Ra E p=true) (g:∀a,p a=true->C (.X a)):C E:=(dt h).ak λc=> @apw.X.ak (λE=>∀c:E.cf=15,@apw.X.ak (λs=>al) E c p=true->C E) E c (λa s=>g a) c
def Rb(E:apw):=λp=>if h:E.cf=18 then @apw.iF.ak 7e7 E h p else false
@[elab_as_elim] def adB {E p} {C:apw->Prop} (h:Rb E p=true) (g:∀a b c d,p a b c d=true->C (.iF a b c d)):C E:=(dt h).ak λc=> @apw.iF.ak (λE=>∀c:E.cf=18,@apw.iF.ak (λs=>al) E c p=true->C E) E c (λa b c d s=>g a b c d) c
def tn(E:Internal.apq):=λp=>if h:E.cf=0 then @Internal.apq.n.ak 7e7 E h p else false
@[elab_as_elim] def Rc {E p} {C:Internal.apq->Prop} (h:tn E p=true) (g:∀a,p a=true->C (.n a)):C E:=(dt h).ak λc=> @Internal.apq.n.ak (λE=>∀c:E.cf=0,@Internal.apq.n.ak (λs=>al) E c p=true->C E) E c (λa s=>g a) c
def tt(E:Internal.apq):=λp=>if h:E.cf=4 then @Internal.apq.t.ak 7e7 E h p else false
@[elab_as_elim] def tt_ {E p} {C:Internal.apq->Prop} (h:tt E p=true) (g:∀a,p a=true->C (.t a)):C E:=(dt h).ak λc=> @Internal.apq.t.ak (λE=>∀c:E.cf=4,@Internal.apq.t.ak (λs=>al) E c p=true->C E) E c (λa s=>g a) c
def Rd(E:Internal.S):=λp=>if h:E.cf=2 then @Internal.S.bk.ak 7e7 E h p else false
@[elab_as_elim] def adC {E p} {C:Internal.S->Prop} (h:Rd E p=true) (g:∀a,p a=true->C (.bk a)):C E:=(dt h).ak λc=> @Internal.S.bk.ak (λE=>∀c:E.cf=2,@Internal.S.bk.ak (λs=>al) E c p=true->C E) E c (λa s=>g a) c
def abp(E:V):=λp=>if h:E.cf=3 then @V.ag.ak 7e7 E h p else false
@[elab_as_elim] def adD {E p} {C:V->Prop} (h:abp E p=true) (g:∀a,p a=true->C (.ag a)):C E:=(dt h).ak λc=> @V.ag.ak (λE=>∀c:E.cf=3,@V.ag.ak (λs=>al) E c p=true->C E) E c (λa s=>g a) c
def Re(E:PySem.jb):=λp=>if h:E.cf=1 then @PySem.jb.bp.ak 7e7 E h p else false
@[elab_as_elim] def adE {E p} {C:PySem.jb->Prop} (h:Re E p=true) (g:∀a,p a=true->C (.bp a)):C E:=(dt h).ak λc=> @PySem.jb.bp.ak (λE=>∀c:E.cf=1,@PySem.jb.bp.ak (λs=>al) E c p=true->C E) E c (λa s=>g a) c
def Rf(E:PySem.jb):=λp=>if h:E.cf=2 then @PySem.jb.y.ak 7e7 E h p else false
@[elab_as_elim] def adF {E p} {C:PySem.jb->Prop} (h:Rf E p=true) (g:∀a,p a=true->C (.y a)):C E:=(dt h).ak λc=> @PySem.jb.y.ak (λE=>∀c:E.cf=2,@PySem.jb.y.ak (λs=>al) E c p=true->C E) E c (λa s=>g a) c
def KG(E:PySem.jb):=λp=>if h:E.cf=5 then @PySem.jb.ag.ak 7e7 E h p else false
@[elab_as_elim] def Rg {E p} {C:PySem.jb->Prop} (h:KG E p=true) (g:∀a,p a=true->C (.ag a)):C E:=(dt h).ak λc=> @PySem.jb.ag.ak (λE=>∀c:E.cf=5,@PySem.jb.ag.ak (λs=>al) E c p=true->C E) E c (λa s=>g a) c
def Rh(E:PySem.jb):=λp=>if h:E.cf=6 then @PySem.jb.iS.ak 7e7 E h p else false
@[elab_as_elim] def adG {E p} {C:PySem.jb->Prop} (h:Rh E p=true) (g:∀a,p a=true->C (.iS a)):C E:=(dt h).ak λc=> @PySem.jb.iS.ak (λE=>∀c:E.cf=6,@PySem.jb.iS.ak (λs=>al) E c p=true->C E) E c (λa s=>g a) c
universe e
section
open PySem PySem.W PyProof.Rows PySem.Calls PySem.Spec
set_option backward.match.sparseCases false
def qJ:D am:=["~x", "~bits", "~narrow", "~unsigned", "~signed", "~y", "~code", "~first32", "~first64", "~many", "~I64_EXTEND8", "~I32_EXTEND8", "~EXTEND_S", "~I32_EQZ", "~I64_EQZ", "~WRAP", "~EXTEND_U", "~place_in", "~I32_CLZ", "~I64_CLZ", "~len", "~COUNTS", "~narrow_of", "~found", "~I32_ADD", "~I64_ADD", "~REST", "~I32_EQ", "~I64_EQ", "~COMPARES", "~Misused", "~kind", "~HEAP_NAMES", "~I32", "~is_ref", "~BLOCK", "~LOOP", "~IF", "~body", "~ends", "~elses", "~opened", "~at", "~instruction", "~enumerate", "~is_block", "~append", "~ELSE", "~END", "~begin", "~pop", "~octets", "~place", "~octet", "~number", "~size", "~bytes", "~range", "~why", "~Trap", "~value", "~isinstance", "~int", "~bool", "~I64", "~bits_of", "~kinds", "~values", "~all", "~does_fit", "~zip", "~more", "~most", "~greatest", "~rows", "~update", "~a", "~table", "~b", "~d", "~codes", "~sorted", "~_law_widths", "~_law_number", "~_law_three", "~_law_reference", "~to", "~elem", "~goal", "~_law_octets", "~_law_elements", "~both", "~handed", "~script", "~extend", "~_law_deed", "~first", "~sum", "~world", "~k", "~noted", "~HostFunc", "~_law_types", "~types", "~sizes", "~store", "~Sizes", "~CoreStore", "~one", "~other", "~Instance", "~CoreInstance", "~funcs", "~tables", "~memories", "~globals", "~elems", "~datas", "~list", "~items", "~far", "~Func", "~hosts", "~_law_host", "~WasmFunc", "~Table", "~address", "~Memory", "~write", "~cells", "~Cell", "~row", "~stack", "~is_signed", "~some", "~filled", "~old", "~source", "~_law_grown", "~second", "~_law_moved", "~depth", "~_law_called", "~_law_through", "~_law_accessed", "~_law_many", "~tuple", "~_law_does", "~run", "~fault", "~Exhausted", "~forward", "~_law_body", "~_law_world", "~_law_store", "~machine", "~CoreMachine", "~told", "~_law_told", "~Run", "~_law_due", "~steps", "~data", "~cell", "~self", "~Exception", "~__init__", "~page", "~pages", "~elements", "~fuel", "~least", "~bytearray", "~grown", "~REFUSED", "~want_within", "~OUTSIDE_MEMORY", "~want", "~number_of", "~octets_of", "~OUTSIDE_TABLE", "~mutable", "~instance", "~func", "~action", "~do_fit", "~module", "~exports", "~index", "~target", "~arity", "~height", "~is_loop", "~matched", "~places", "~base", "~locals", "~labels", "~Label", "~ahead", "~frames", "~is_broken", "~enter", "~done", "~step", "~is_done", "~count", "~frame", "~here", "~do", "~control", "~local", "~last", "~is_unary", "~reckon1", "~reckon2", "~is_first", "~branch", "~choose", "~branch_by_table", "~give_back", "~UNREACHABLE", "~go", "~carried", "~is_tail", "~lower", "~CALL_STACK", "~default_value", "~Frame", "~peak", "~max", "~known", "~FUEL", "~matches", "~address_in", "~element", "~memory", "~reference", "~table_of", "~UNDEFINED", "~UNINITIALIZED", "~OTHER_KIND", "~is_host", "~hosted", "~open_frame", "~kept", "~get", "~put", "~memory_of", "~LOADS", "~load", "~widened", "~STORES", "~grow", "~drop_data", "~init", "~copy", "~fill", "~drop_elem", "~many_elements", "~locals_now"]
def nm(k:I):am:=(qJ[k]?).ge ⟨#[2000000+k]⟩
def adH:qJ.dM (λs=>s.cps.dM λc=>I.g6 c 1000000)=true:=av
def adI:qJ.dX:=by decide+ci
def r7{a b:I}(h:nm a=nm b):a=b:=by
 unfold nm at h;have p:∀k (x:am),x∈qJ->x≠⟨#[2000000+k]⟩:=by
  intro k x n e;have:=D.iw.mp adH x n;rw[e]at bb;simp at bb;lia
 cases r:qJ[a]? with
 |L=>
  cases s:qJ[b]? with
  |L=>
   rw[r,s]at h;simp only[ar.getD_none,am.mk.fv,bP.mk.fv,D.aQ.fv]at h;lia
  |G app=>
   rw[r,s]at h;exact bL h.bi (p _ _ (D.jc s))
 |G x=>
  cases s:qJ[b]? with
  |L=>
   rw[r,s]at h;exact bL h (p _ _ (D.jc r))
  |G app=>
   rw[r,s]at h;simp only[ar.getD_some]at h;subst h;show oE (D.gP.mp r) λq v=>?_;show oE (D.gP.mp s) λw m=>?_;exact(D.getElem_inj adI).mp (v.aV m.bi)
abbrev aW:=D 9e3
def lx:I:=1468
def dT(p:9e3):11e9:=p.1::p.2
def cy(J:aW)(a:aI):Prop:=∃p∈J,a∈24e3
inductive cJ {α β:Type} (p:α->β->Prop):D α->D β->Prop
 |aR:cJ p [] []
 |aQ {a b l m}:p a b->cJ p l m->cJ p (a::l) (b::m)
@[elab_as_elim] def fnE.cE {α β:Type} {p:α->β->Prop} {m:D β} {C:∀m,cJ p [] m->Prop} (r:cJ p [] m) (aR:C [] .aR):C m r:=by cases(r);exact aR
@[elab_as_elim] def fcE.cE {α β:Type} {p:α->β->Prop} {a:α} {l:D α} {m:D β} {C:∀m,cJ p (a::l) m->Prop} (r:cJ p (a::l) m) (aQ:∀{b m} (x:p a b) (app:cJ p l m),C (b::m) (.aQ x app)):C m r:=by cases(r)with|aQ x app=>exact aQ x app
section
variable{α β:Type}{p q:α->β->Prop}{l l':D α}{m m':D β}
def cJ.f5(f:∀a b,p a b->q a b)(h:cJ p l m):cJ q l m:=by
 induction h with
 |aR=>exact .aR
 |aQ a _ ih=>exact .aQ (f _ _ a) ih
def cJ.cU(h:cJ p l m):m.U=l.U:=by
 induction h with
 |aR=>rfl
 |aQ _ _ ih=>exact bC (· +1) ih
def cJ.lX(h:cJ p l m)(g:cJ p l' m'):cJ p (l++l') (m++m'):=by
 induction h with
 |aR=>exact g
 |aQ a _ ih=>exact .aQ a ih
def cJ.rev(h:cJ p l m):cJ p l.et m.et:=by
 induction h with
 |aR=>exact .aR
 |aQ a _ ih=>rw[D.Bo,D.Bo];exact ih.lX (266 a)
def cJ.fi(h:cJ p l m):∀n:I,cJ p (l.fi n) (m.fi n):=by
 induction h with
 |aR=>exact λn=>by rw[D.drop_nil,D.drop_nil];exact .aR
 |aQ a r ih=>exact λn=>I.cE n (.aQ a r) ih
def cJ.fI(h:cJ p l m):∀n:I,cJ p (l.fI n) (m.fI n):=by
 induction h with
 |aR=>exact λn=>by rw[D.take_nil,D.take_nil];exact .aR
 |aQ a r ih=>exact λn=>I.cE n .aR λn=> .aQ a (ih n)
def cJ.cN{a:α}{b:β}(r:p a b)(h:cJ p l m):∀n:I,cJ p (l.cN n a) (m.cN n b):=by
 induction h with
 |aR=>exact λn=> .aR
 |aQ a h ih=>exact λn=>I.cE n (.aQ r h) λn=> .aQ a (ih n)
def cJ.dL{a:α}(h:cJ p l m):∀{k:I},l[k]? =11e3->∃b,m[k]? =G b/\p a b:=by
 induction h with
 |aR=>exact λe=>19e2
 |aQ r _ ih=>exact λ{k}=>match k with
  |0=>λe=>⟨_,H,11e6▸r⟩
  |_+1=>ih
@[elab_as_elim] def cJ.KH {C:D β->Prop} (h:cJ p [] m) (c:C []):C m:=by cases h;exact c
@[elab_as_elim] def cJ.KI {a:α} {C:D β->Prop} (h:cJ p (a::l) m) (c:∀b m,p a b->cJ p l m->C (b::m)):C m:=by cases h with|aQ r s=>exact c _ _ r s
universe e
inductive RV (J:aW) (h:ai):V->af->Prop
 |aa (v:af):RV J h (.aa v) v
 |bp (b t):RV J h (.bp b t) (.bp b)
 |y (i t tk):RV J h (.y i t) (.y i tk)
 |ag (s tk):RV J h (.ag s) (.ag s tk)
 |ch (b tk):b.U<=16777216->RV J h (.ch b) (.iS ⟨b⟩ tk)
 |X (l a aP):jm h a ⟨aP⟩->l.U<=16777216->cJ (RV J h) l aP->RV J h (.X l) (.N a)
 |ad (l t a aP):h.gY a ⟨aP⟩->¬cy J a->l.U<=16777216->cJ (RV J h) l aP->RV J h (.ad l t) (.N a)
 |ei (b a):h.ao a=G ⟨.aB "bytearray",L,.qs ⟨b⟩ 0,#[]⟩->¬cy J a->b.U<=16777216->RV J h (.ei b) (.N a)
 |Z (i:I) (p:aI×D aI):J[i]? =G p->RV J h (.Z i) (.N p.1)
abbrev cx(J:aW)(h:ai):0e0->2e5->Prop:=cJ (RV J h)
section
variable{J:aW}{h:ai}{u:af}
@[elab_as_elim] def tI.cE {v} {C:∀u,RV J h (.aa v) u->Prop} (r:RV J h (.aa v) u) (aa:C v (.aa v)):C u r:=by cases(r);exact aa
@[elab_as_elim] def KJ.cE {b t} {C:∀u,RV J h (.bp b t) u->Prop} (r:RV J h (.bp b t) u) (bp:C (.bp b) (.bp ..)):C u r:=by cases(r);exact bp
@[elab_as_elim] def vy.cE {i t} {C:∀u,RV J h (.y i t) u->Prop} (r:RV J h (.y i t) u) (y:∀tk,C (.y i tk) (.y ..)):C u r:=by cases(r);exact y _
@[elab_as_elim] def Ri.cE {s} {C:∀u,RV J h (.ag s) u->Prop} (r:RV J h (.ag s) u) (ag:∀tk,C (.ag s tk) (.ag ..)):C u r:=by cases(r);exact ag _
@[elab_as_elim] def xV.cE {b} {C:∀u,RV J h (.ch b) u->Prop} (r:RV J h (.ch b) u) (ch:∀tk s,C (.iS ⟨b⟩ tk) (.ch _ _ s)):C u r:=by cases(r)with|ch _ _ s=>exact ch _ s
@[elab_as_elim] def KM.cE {l} {C:∀u,RV J h (.X l) u->Prop} (r:RV J h (.X l) u) (X:∀a aP s e x,C (.N a) (.X l a aP s e x)):C u r:=by cases(r)with|X _ _ _ a b c=>exact X _ _ a b c
@[elab_as_elim] def Bp.cE {l t} {C:∀u,RV J h (.ad l t) u->Prop} (r:RV J h (.ad l t) u) (ad:∀a aP x s p e,C (.N a) (.ad l t a aP x s p e)):C u r:=by cases(r)with|ad _ _ _ _ a b c d=>exact ad _ _ a b c d
@[elab_as_elim] def Rj.cE {b} {C:∀u,RV J h (.ei b) u->Prop} (r:RV J h (.ei b) u) (ei:∀a x s e,C (.N a) (.ei b a x s e)):C u r:=by cases(r)with|ei _ _ a b c=>exact ei _ a b c
@[elab_as_elim] def mG.cE {i} {C:∀u,RV J h (.Z i) u->Prop} (r:RV J h (.Z i) u) (Z:∀p s,C (.N p.1) (.Z i p s)):C u r:=by cases(r)with|Z _ _ a=>exact Z _ a
universe e
def nS{α:Type}{a:α}{C:Prop}(e:L=11e3):C:=bL e nofun
def oB{α β:Type}{o:29e4}{f:α->ar β}{b:β}(e:o.cr f=G b){C:Prop}(g:∀a,o=11e3->f a=G b->C):C:=by
 cases o with
 |L=>exact 18e0
 |G a=>exact g a H e
def ap3{α β:Type}{o:29e4}{f:α->β}{b:β}(e:o.aj f=G b){C:38e4}(g:∀a,o=11e3->C (f a)):C b:=by
 cases o with
 |L=>exact 18e0
 |G a=>exact 11e6▸g a H
def oO{α:Type}{o p:29e4}{b:α}(e:o.or p=G b){C:Prop}(g:o=G b->C)(g':p=G b->C):C:=by
 cases o with
 |L=>exact g' e
 |G a=>exact g e
def cS{α:Type}{b:al}{a z:α}{o:29e4}(e:cC b 11e3 o=G z){C:Prop}(g:b=true->a=z->C)(g':b=false->o=G z->C):C:=by
 cases b with
 |false=>exact g' H e
 |true=>exact g H 11e6
def V.i_{v:V}{p}(e:v.i?=5e1):v= .y p.1 p.2:=by
 cases v with
 |y=>exact 11e6▸H
 |_=>exact 18e0
def V.o_{v:V}{p}(e:v.o?=5e1):v= .Z p:=by
 cases v with
 |Z=>exact 11e6▸H
 |_=>exact 18e0
def V.r_{v:V}{p}(e:v.r?=5e1):v= .aa p:=by
 cases v with
 |aa=>exact 11e6▸H
 |_=>exact 18e0
def V.y_{v:V}{p}(e:v.y?=5e1):v= .ch p:=by
 cases v with
 |ch=>exact 11e6▸H
 |_=>exact 18e0
def V.t_{v:V}{p}(e:v.t?=5e1):v= .X p:=by
 cases v with
 |X=>exact 11e6▸H
 |_=>exact 18e0
def V.l_{v:V}{p}(e:v.l?=5e1):v= .ad p.1 p.2:=by
 cases v with
 |ad=>exact 11e6▸H
 |_=>exact 18e0
section
variable{J:aW}{h:ai}{v:V}{u:af}
universe e
def KN{u:af}(h:pB u=true):u= .L:=af.L.ak (wF:=λu=>u= .L) u (I.f0 h) H
def tJ(a:K)(k:V):Prop:=∃t,k= .y a t
def tK(a:am)(k:V):Prop:=k= .ag a
abbrev RK{apv:Type}(f:38e7)(J:aW)(h:ai):5e6->31e5->Prop:=cJ λp q=>f q.1 p.1/\RV J h p.2 q.2
abbrev Bq:= @RK K tJ
abbrev Br:= @RK am tK
abbrev ly(J:aW)(h:ai):0e1->26e2->Prop:=cJ λp e=>(∃tk,e.cR= .ag (nm p.1) tk)/\RV J h p.2 e.oT
def adJ(c:af):al:=match c with
 | .L=>true
 | .aB n=>n== "code"
 |_=>false
def ix(o:aA):al:=I.bZ o.bf.cf (uX.cp #[]).cf&&adJ o.bj
def r8{o:aA}(h:∀vs,o.bf≠ 27e1):ix o=false:=by
 unfold ix;cases z:I.bZ o.bf.cf (uX.cp #[]).cf with
 |false=>rfl
 |true=>exact uX.cp.ak (wF:=λd=>(∀vs,d≠ 27e1)->_) o.bf (I.f0 z) (λvs h=>bL H (h vs)) h
def Rk{o:aA}(h:ix o=true):∀es n,o.bf≠ .bw es n:=λes n q=>by
 rw[r8 (λvs e=>nomatch q.bi.aV e)]at h;exact nomatch h
def tL{o:aA}{es n}(h:o.bf= .bw es n):ix o=false:=56e9
def Bs{o:aA}{c}(h:o.bf= .dm c):ix o=false:=56e9
def nP:PySem.a0:=match uK (eh 133)with
 | .pP (G (.jT _ [_,l] _ _)) _::_=>l
 |_=> .D [] ⟨0,0,0,0⟩
def xW:X8:=match nP with
 | .Bt a _ _ _=>a
 |_=>DT (eh 133)
def vz:PySem.a0:=match nP with
 | .Bt _ b _ _=>b
 |_=> .D [] ⟨0,0,0,0⟩
def kl:cD:=match nP with
 | .Bt _ _ s _=>s
 |_=>DU (eh 133)
def kQ:dA:=match nP with
 | .Bt _ _ _ p=>p
 |_=>⟨0,0,0,0⟩
def oU:am:= "_law_host.<locals>.<lambda>"
def Rl:nP= .Bt xW vz kl kQ:=av
def nQ(h:ai)(c:aI)(q:am):Prop:=∃o vs t,h.ao c=0e4/\o.bj= 53e1 /\o.bf= 27e1/\vs[1]? =14 q t
def lY:aI:=1391
def qK(h:ai):Prop:=∃ps,h.ao lY=G (PySem.W.apw.Rm ps)/\(ps= #[]\/∃c,ps= #[iE kQ.iH,iE kQ.col,.N c]/\nQ h c oU)
def jt(h h':ai):Prop:=∀a o,14e4=0e4->ix o=true->18e4=0e4
def Bu{o:aA}{vs:16e5}(h:o.bj= 53e1)(d:o.bf= 27e1):ix o=true:=by
 unfold ix;rw[h,d];rfl
def jt.dI{h h':ai}(k:jt h h'){c:aI}{q:am}:nQ h c q->nQ h' c q:=(by intro s;(show k7 s λo vs t e a b r=>?_;try clear s);exact⟨o,vs,t,k c o e (Bu a b),a,b,r⟩)
def jt.Y{h h':ai}(k:jt h h'):qK h->qK h':=(by intro s;(show aN s λps e r=>?_;try clear s);exact⟨ps,k _ _ e H,r.f5 id (by intro s;(show aN s λc a b=>?_;try clear s);exact⟨c,a,k.dI b⟩)⟩)
structure Bv(fd:jD)(c1 c2 cc:aI):Prop where
 cX:fd.cX= .xX vz
 bt:fd.bt=kl
 bV:fd.bV=xW
 rk:fd.rk=[(nm 100,c2),(nm 31,c1)]
 dI:fd.dI= .N cc
 px:fd.pd=oU
 ha:fd.ha=iD
 jE:fd.jE=mW
 zS:fd.zS= .L
 DV:fd.DV= .L
inductive adK (J:aW) (h:ai) (p:aI×D aI) (k i:V):Prop
 |mk (fd:jD) (c1 c2:aI) (u1 u2:af) (e0:p.2=[c1,c2]) (e1:h.ao p.1=G ⟨.aB "function",L,.ml fd,#[]⟩) (apt:∃cc,Bv fd c1 c2 cc/\nQ h cc oU) (i1:h.pS c1 (G u1)) (i2:h.pS c2 (G u2)) (r1:RV J h k u1) (r2:RV J h i u2)
inductive RTb (h:ai) (aD:D aI) (vs:bP af):Prop
 |mk (tb:aI) (ot:aA) (pT:bP af) (e:aD=[tb]) (h1:vs[1]? =G (.N tb)) (h2:h.ao tb=G ot) (h3:ot.bj= .aB "traceback") (h4:ot.bf= .cp pT) (h5:4<pT.an)
inductive adL (J:aW) (h:ai) (p:aI×D aI) (C:aI) (d:D (I×V)):Prop
 |mk (hl:d.U<=1000) (dx:aI) (aD:D aI) (es:D iQ) (n:I) (vs:bP af) (sl:bP (ar af)) (e0:p.2=dx::aD) (e1:h.ao p.1=G ⟨.N C,G dx,.cp vs,sl⟩) (e2:h.ao dx=G (hK es n)) (r:ly J h d es) (hv:vs.an=6)
   (tb:(aD=[]/\vs[1]? =G .L)\/RTb h aD vs)
inductive adM (J:aW) (h:ai) (p:aI×D aI) (C:aI) (d:D (I×V)):Prop
 |mk (hl:d.U<=1000) (dx:aI) (es:D iQ) (n:I) (sl:bP (ar af)) (e0:p.2=[dx]) (e1:h.ao p.1=G ⟨.N C,G dx,.tj,sl⟩) (e2:h.ao dx=G (hK es n)) (r:ly J h d es)
def DK(w:eB)(J:aW)(h:ai)(o:aA)(l:5e6):Prop:=(∃bK,o.qL (oG pw w) bK/\Bq J h l bK)\/∃bK,o.qL (tM pw w) bK/\Br J h l bK
def RO(w:eB)(J:aW)(h:ai)(p:9e3):aps->Prop
 | .az l _=>p.2=[]/\l.U<=16777216/\∃aP,h.ka p.1 32e3/\cx J h l aP
 | .au l=>p.2=[]/\l.U<=16777216/\∃aP,h.ka p.1 32e3/\cx J h l.et aP
 | .bw l=>p.2=[]/\l.U<=1000/\∃o,h.ao p.1=0e4/\DK w J h o l
 | .bv C d=>adM J h p C d
 | .eG b=>p.2=[]/\b.U<=16777216/\h.ao p.1=G (316 26e7 (.qs 21e9 0))
 | .cW k i=>adK J h p k i
 | .a8 C d=>adL J h p C d
structure Fx where
 w:eB
 A:dg
 ab:eA
 os:OsState
 fz:al
def fr(x:Fx)(a:aI):Prop:=a=x.ab.cY\/(x.fz=false/\∃n,(n,a)∈x.ab.b3)
inductive FAt (ap4:ar (D eA)) (a:aI):Prop
 |mk (l:D eA) (hl:ap4=G l) (e:eA) (he:e∈l) (hf:e.ec=G a)
def FA(x:Fx)(a:aI):Prop:=FAt x.A.dY a
structure Kp(J aC:aW)(x:Fx)(h h':ai):Prop where
 bS:∀a o,h.ao a=G o->ix o=false->¬FA x a->¬fr x a->¬cy J a->h'.ao a=G o
 ju:∀a o,h.ao a=G o->FA x a->¬fr x a->∃o',h'.ao a=G o'/\o'.bj=o.bj/\o'.bf=o.bf
 iW:∀a o,h.ao a=G o->ix o=true->a≠lY->h'.ao a=G o
 g7:∀a o,h.ao a=G o->∃o',h'.ao a=G o'
 fm:∀a,cy aC a->h.ao a=L
inductive adN (x:eA) (J:aW) (h:ai) (T:D (I×V)):Prop
 |mk (m:am->ar af) (hn:h.Ns x.cY m) (hm:∀k v,x.dB (nm k)=G .cV->lk T k=G v->∃u,m (nm k)=G u/\RV J h v u)
inductive adO (x:eA) (J:aW) (h:ai) (k:I) (v:V):Prop
 |mk (c:aI) (u:af) (e:x.b3.bY (nm k)=G c) (i:h.pS c (G u)) (r:RV J h v u) (no:¬cy J c)
structure Bw(x:Fx)(J:aW)(h:ai)(T:D (I×V)):Prop where
 iP:adN x.ab J h T
 eV:∀k v,(x.ab.dB (nm k)=G .dm\/x.ab.dB (nm k)=G .eH)->lk T k=G v->adO x.ab J h k v
inductive r9 (h:ai) (e:eA):Prop
 |mk (aqO:e.bt.d9= .jL) (apt:aI) (o:aA) (e1:e.ec=G apt) (e2:h.ao apt=G o) (es:bP iQ) (n:I) (e3:o.bf= .bw es n)
structure aK(x:Fx)(J:aW)(F:MS)(s:ae):Prop where
 d8:hb s.M (KL x.w.bV)
 cU:J.U=F.O.U
 O:∀(i:I) (o:aps) (p:aI×D aI),F.O[i]? =G o->J[i]? =G p->RO x.w J s.M p o
 nd:(J.tN dT).dX
 gz:∀a,cy J a->lx<=a
 up:∀a,cy J a->a<s.M.O.an
 bq:Bw x J s.M F.T
 bI:∀a,fr x a->¬cy J a
 hM:∀a,fr x a->lx<=a
 b3:(x.ab.b3.aj (·.2)).dX/\(x.ab.b3.aj (·.1)).dX/\∀n,(n,x.ab.cY)∉x.ab.b3
 hw:x.fz=false->∀n c,(n,c)∈x.ab.b3->∃w,s.M.pS c w
 gD:∀l,x.A.dY=G l->∀e∈l,r9 s.M e
 fy:∀a,FA x a->lx<=a/\¬cy J a
 dD:s.dD= #[]
 os:s.os=x.os
 cW:qK s.M
structure Fx.Ok(x:Fx)(d:I):Prop where
 fn:x.ab.bt.d9= .jL
 vA:x.ab.ha=iD
 jP:x.ab.jE=mW
 vB:∀n,(x.ab.dB n=G .dm\/x.ab.dB n=G .eH)->(x.ab.b3.bY n).ir=true
 g9:x.A.g9+2*d+2<DG
 jd:x.A.jd+20*d+20<cLine
 e9:x.A.e9=L
 j7:x.A.j7=G []
 dY:∃l,x.A.dY=G l/\(x.fz=false->∃l',l=x.ab::l'/\x.ab.ec=G x.ab.cY)
 iF:x.fz=true->x.ab.bt.bq.bY (".0" :am)=G .cV
def Kp.b8(J:aW)(x:Fx)(h:ai):Kp J [] x h h:=⟨λs s e s s s s=>e,λs o e s s=>⟨o,e,H,H⟩,λa o e s s=>e,λa o e=>⟨o,e⟩,(by intro a b;(show aN b λp r s=>?_;try clear b);exact nomatch r)⟩
def jv{J aC:aW}{a:aI}:69 (J++aC) ↔ 14e2\/69 aC:=by
 constructor
 ·intro e;(show aN e λp x s=>?_;try clear e);rcases D.lL.mp x with h|h
  ·exact .a4 ⟨p,h,s⟩
  ·exact 247 p h s
 ·intro e;rcases e with⟨p,x,s⟩|⟨p,x,s⟩
  ·exact⟨p,D.w3 _ x,s⟩
  ·exact⟨p,D.uP _ x,s⟩
def Kp.aV{J s m2:aW}{x:Fx}{h r h2:ai}(a:Kp J s x h r)(b:Kp (J++s) m2 x r h2):Kp J (s++m2) x h h2:=by
 show⟨λc o e t f hL p=>b.bS c o (a.bS c o e t f hL p) t f hL λq=>?_,λc o e f hL=>?_,λc o e t n=>b.iW c o (a.iW c o e t n) t n,λc o e=>?_,λc k=>?_⟩
 ·rcases 46e2 with q|q
  ·exact p q
  ·exact 225 (a.fm c q) e
 ·show dU (a.ju c o e f hL) λo1 e1 c1 d1=>?_;show dU (b.ju c o1 e1 f hL) λo2 e2 c2 v=>?_;exact⟨o2,e2,c2.aV c1,v.aV d1⟩
 ·show oE (a.g7 c o e) λo1 e1=>?_;exact b.g7 c o1 e1
 ·rcases jv.mp k with q|q
  ·exact a.fm c q
  ·cases m:h.ao c with
   |L=>rfl
   |G o=>
    show oE (a.g7 c o m) λo1 e1=>?_;exact 225 (b.fm c q) e1
structure f8(J xY:aW)(h h':ai):Prop where
 X:∀a aP,jm h a aP->jm h' a aP
 ad:∀a aP,h.gY a aP->¬cy J a->h'.gY a aP/\¬cy xY a
 ei:∀a b n,h.ao a=G ⟨.aB "bytearray",L,.qs b n,#[]⟩->¬cy J a->h'.ao a=G ⟨.aB "bytearray",L,.qs b n,#[]⟩/\¬cy xY a
 Z:∀(i:I) p,J[i]? =G p->∃q,xY[i]? =G q/\q.1=p.1
 KP:∀c q,nQ h c q->nQ h' c q
def dP{J n:aW}{h h':ai}(k:f8 J n h h'):∀{v:V} {u:af},22e1->RV n h' v u:=by
 intro v u r;show RV.rp (motive_1:=λv u m=>RV n h' v u) (KQ:=λl us m=>cx n h' l us) ?_ ?_ ?_ ?_ ?_ ?_ ?_ ?_ ?_ ?_ ?_ r
 ·exact λv=> .aa v
 ·exact λb t=> .bp b t
 ·exact λi t tk=> .y i t tk
 ·exact λs tk=> .ag s tk
 ·exact λb tk x=> .ch b tk x
 ·exact λl a aP e x m ih=> .X l a aP (k.X _ _ e) x ih
 ·exact λl t a aP e o x m ih=> .ad l t a aP (k.ad _ _ e o).1 (k.ad _ _ e o).2 x ih
 ·exact λb a e o x=> .ei b a (k.ei _ _ _ e o).1 (k.ei _ _ _ e o).2 x
 ·exact λi p e=>by
   show aN (k.Z i p e) λq w h=>?_;rw[<-h];exact .Z i q w
 ·exact .aR
 ·exact λm m a b=> .aQ a b
def hN{J s:aW}{h h':ai}(k:f8 J s h h'){l:0e0}{us:2e5}:83 l->cx s h' l us:= .f5 λx x=>dP k
def tO{J s:aW}{h h':ai}(k:f8 J s h h'){apv:Type}{f:38e7}{l:5e6}{es:31e5}:RK f J h l es->RK f s h' l es:= .f5 λx x r=>⟨r.1,dP k r.2⟩
def xZ{J s:aW}{h h':ai}(k:f8 J s h h'){l:0e1}{es:26e2}:ly J h l es->ly s h' l es:= .f5 λx x r=>⟨r.1,dP k r.2⟩
def iy{J:aW}{h:ai}{l:0e0}{us:2e5}(r:83 l):us.U=l.U:=r.cU
section
variable{x:Fx}{J aC:aW}{F:MS}{s:ae}
@[elab_as_elim] def x4 {p a:aI} {P:aI->Prop} (m:a∈dT (p,[])) (h:P p):P a:=D.cZ.mp m▸h
@[elab_as_elim] def Bx {p b a:aI} {P:aI->Prop} (m:a∈dT (p,[b])) (h:P p) (s:P b):P a:=(D.eS.mp m).ak (λe=>e▸h) λm=>D.cZ.mp m▸s
@[elab_as_elim] def tP {p b c a:aI} {P:aI->Prop} (m:a∈dT (p,[b,c])) (h:P p) (s:P b) (h2:P c):P a:=(D.eS.mp m).ak (λe=>e▸h) λm=>Bx m s h2
def vC(h:ai)(l:11e9):Prop:=∀a∈l,∃ob,14e4=G ob/\(ob.bj≠ 26e5 \/∀xs n,ob.bf≠ .cH xs n)
def vC.aR{h:ai}:vC h []:=λs m=>nomatch m
def vC.aQ{h:ai}{a:aI}{l:11e9}{ob:aA}(e:14e4=G ob)(n:ob.bj≠ 26e5 \/∀xs n,ob.bf≠ .cH xs n)(r:vC h l):vC h (a::l):=λb m=>(D.eS.mp m).ak (λq=>q▸⟨_,e,n⟩) (r b)
def Ro{w:eB}{J:aW}{h:ai}{p:9e3}{o:aps}(z:RO w J h p o):vC h 24e3:=by
 unfold dT;cases o with
 |az=>(show gq z λq s s x s=>?_;try clear z;(show oE x λs e=>?_;try clear x));rw[q];exact .aQ e (.a4 (show 51e4 ≠ 26e5 from aq)) .aR
 |au=>(show gq z λq s s x s=>?_;try clear z;(show oE x λs e=>?_;try clear x));rw[q];exact .aQ e (.a4 (show 51e4 ≠ 26e5 from aq)) .aR
 |bw=>
  show gq z λq s o' e z=>?_;rw[q];show .aQ e (.aE λxs n=>?_) .aR;rcases z with⟨_,⟨_,_,_,hd,_⟩,_⟩|⟨_,⟨_,_,_,hd,_⟩,_⟩<;>exact hd▸nofun
 |eG=>rw[z.1];exact 371 z.2.2 .aR
 |cW=>obtain(⟨_,_,_,_,_,q,e,_,⟨_,f1,d1⟩,⟨_,f2,a⟩,_⟩):=z;rw[q];exact 371 e (.aQ f1 (.aE (d1▸nofun)) (.aQ f2 (.aE (a▸nofun)) .aR))
 |bv=>obtain(⟨_,_,_,_,_,q,e1,e2,_⟩):=z;rw[q];exact 371 e1 (371 e2 .aR)
 |a8=>
  obtain(⟨_,_,aD,_,_,_,_,q,e1,e2,_,_,tb⟩):=z;rw[q];show 371 e1 (371 e2 ?_);rcases tb with⟨r,_⟩|⟨_,_,_,r,_,e3,_,e4,_⟩<;>rw[r]
  ·exact .aR
  ·exact .aQ e3 (.aE (e4▸nofun)) .aR
def aK.ca(R:0e9){a:aI}(h:14e2):∃ob,4e4=G ob/\(ob.bj≠ 26e5 \/∀xs n,ob.bf≠ .cH xs n):=by
 (show aN h λp r b=>?_;try clear h);obtain⟨i,e,H⟩:=D.adP r;exact Ro (R.O i _ J[i] (D.ie (R.cU▸e)) (D.ie e)) a b
def aK.By(R:0e9){a:aI}(h:14e2){o:aA}(e:4e4=0e4)(xs n)(hd:o.bf= .cH xs n):o.bj≠ 26e5 :=by
 show aN (R.ca h) λob b z=>?_;cases ar.G.cF (e.bi.aV b);exact z.ak id λz=>bL hd (z xs n)
def r9.eI{h h':ai}{e:eA}(f:r9 h e)(k:∀a o,e.ec=11e3->14e4=0e4->∃o',18e4=G o'/\o'.bf=o.bf):r9 h' e:=by
 obtain(⟨x,apt,o,e1,e2,es,n,e4⟩):=f;show aN (k apt o e1 e2) λo' f1 s=>?_;exact⟨x,apt,o',e1,f1,es,n,s.aV e4⟩
def aK.lz(R:0e9){a:aI}{o:aA}(e:4e4=0e4)(hd:∀es n,o.bf≠ .bw es n):¬FA x a:=by
 intro b;obtain(⟨l,p,v,r,h⟩):=b;obtain(⟨_,apt,o',e1,e2,es,n,e3⟩):=R.gD l p v r;rw[h]at e1;cases e1;rw[e]at e2;cases e2;exact hd es n e3
def aK.tQ(R:0e9){a:aI}(h:fr x a){o:aA}(e:4e4=0e4):(∀xs n,o.bf≠ .cH xs n)/\(∀xs n,o.bf≠ .qs xs n)/\ix o=false:=by
 rcases h with H|⟨hz,n,r⟩
 ·obtain(⟨m,⟨o',es,ep,b,hd,_⟩,_⟩):=R.bq.iP;cases ar.G.cF (e.bi.aV b);exact⟨hd▸nofun,hd▸nofun,tL hd⟩
 ·show gd (R.hw hz n a r) λw o' b hd=>?_;cases ar.G.cF (e.bi.aV b);exact⟨hd▸nofun,hd▸nofun,Bs hd⟩
def aK.KR(R:0e9){c:aI}{o:aA}(e:37e0=0e4)(a:o.bj= 53e1):c≠lY:=by
 intro b;subst b;show aN R.cW λps h r=>?_;rw[h]at e;cases e;cases a
def aK.eI(R:aK x J F s){m2:aW}{h':ai}(k:Kp J m2 x s.M h'):f8 J (J++m2) s.M h' where
 X a aP e:=by
  (show gF e λo h m n hd=>?_;try clear e);exact⟨o,k.bS a o h (r8 λvs q=>by rw[hd]at q;cases q) (R.lz h λes n q=>by rw[hd]at q;cases q) (λq=>(R.tQ q h).1 _ _ hd) (λq=>R.By q h _ _ hd m),m,n,hd⟩
 ad a aP e o:=by
  (show gF e λob h m n hd=>?_;try clear e);exact⟨⟨ob,k.bS a ob h (r8 λvs q=>by rw[hd]at q;cases q) (R.lz h λes n q=>by rw[hd]at q;cases q) (λq=>(R.tQ q h).1 _ _ hd) o,m,n,hd⟩,λq=>(jv.mp q).ak o λq=>nN ((k.fm a q).bi.aV h)⟩
 ei a aP n e o:=⟨k.bS a _ e H (R.lz e λes n q=>by cases q) (λq=>(R.tQ q e).2.1 _ _ H) o,λq=>(jv.mp q).ak o λq=>nN ((k.fm a q).bi.aV e)⟩;Z i p e:=⟨p,by rw[D.kR (D.gP.mp e).1];exact e,H⟩;KP c q e:=(by show k7 e λo vs t e a b r=>?_;exact⟨o,vs,t,k.iW c o e (Bu a b) (R.KR e a),a,b,r⟩)
def aK.rv(R:0e9){m2:aW}{h':ai}(k:71 m2 h'){v:V}{u:af}(r:15e7):RV (J++m2) h' v u:=dP (R.eI k) r
def aK.Rp(R:0e9){m2:aW}{h':ai}(k:71 m2 h'){v:0e0}{u:2e5}(r:cx J s.M v u):cx (J++m2) h' v u:=hN (R.eI k) r
def aK.a1(R:0e9)(t:I):230 F 54e7:=⟨R.d8,R.cU,R.O,R.nd,R.gz,R.up,R.bq,R.bI,R.hM,R.b3,R.hw,R.gD,R.fy,R.dD,R.os,R.cW⟩
universe e
section
variable{α β γ δ:Type}
def x5(J:aW)(F:MS)(i:I):Prop:=J.U<=i/\∃C d,22e0 =G (.a8 C d)
def aH(x:Fx)(J:aW)(s:ae)(r:3e3)(br:17e8)(Q:12e2)(EE:0e5):Prop:=match r with
 | .aT a F ob=>51e9/\∀aC s' u,207 F->38e5->br (J++aC) s'.M a u->Q u s'
 | .a8 i F ob=>51e9/\∀aC s' u,x5 J F i->207 (4 F.O F.bG)->38e5->RV (J++aC) s'.M 15e9 u->EE u s'
 | .no _=>fT
variable{x:Fx}{J aC:aW}{s s1:ae}{r:R α}{br:aW->ai->α->β->Prop}{Q:β->ae->Prop}{EE:af->ae->Prop}{F:MS}
def aH.cj{o:6e1}(P:11 (r.cj o)):(∀p∈o,p)/\27e7:=by
 cases r with
 |aT a F ob=>exact⟨λp h=>P.1 p (D.w3 _ h),λp h=>P.1 p (D.uP _ h),P.2⟩
 |a8 a F ob=>exact⟨λp h=>P.1 p (D.w3 _ h),λp h=>P.1 p (D.uP _ h),P.2⟩
 |no=>exact P.ak
def aH.qM(P:27e7)(apv:71 aC s1.M):aH x (J++aC) s1 r br Q EE:=by
 cases r with
 |aT a F ob=>exact⟨P.1,λm2 s' u R h r=>P.2 (aC++m2) s' u (385 R) (apv.aV h) (385 r)⟩
 |a8 a F ob=>exact⟨P.1,λm2 s' u e R h r=>P.2 (aC++m2) s' u ⟨by have:=e.1;rw[D.hP]at bb;exact I.Rq bb,e.2⟩ (385 R) (apv.aV h) (385 r)⟩
 |no=>exact P.ak
def aH.aF{f:α->MS->R γ}{e:200 γ δ}{h:38e2}(P:100 34e5 e h)
  (apz:∀a aS aC s1 u,294 aS s1->71 aC s1.M->br (J++aC) s1.M a u->aH x (J++aC) s1 (f a aS) e h EE->Q u s1):27e7:=by
 cases r with
 |aT a F ob=>exact⟨(26e9).1,λaC s' u R apv r=>apz a F aC s' u R apv r ((26e9).2.qM apv)⟩
 |a8 a F ob=>exact P
 |no=>exact P.ak
def aH.bk{a:α}(P:11 (7 a)){s':ae}{u:β}(R:230 F s')(apv:71 [] s'.M)(r:br J s'.M a u):Q u s':=
 P.2 [] s' u (297 R) apv (297 r)
def aH.jU{a:α}(P:11 (7 a)){u:β}(R:0e9)(t:I)(r:br J s.M a u):Q u 54e7:=
 P.bk (s':=54e7) (R.a1 t) (Kp.b8 ..) r
def aH.fL{a:α}(P:11 (7 a)){u:β}(R:0e9)(r:br J s.M a u):Q u s:=P.bk R (Kp.b8 ..) r
universe e
def RB(_:aW)(_:ai)(b c:al):Prop:=b=c
inductive RF (J:aW) (h:ai):A->iM->Prop
 |next:RF J h (.f .bA) .bA
 |bk {v u}:RV J h v u->RF J h (.f (.bk v)) (.bk u)
section
variable{α β γ δ:Type}{x:Fx}{J:aW}{s:ae}{br:aW->ai->γ->δ->Prop}{Q:δ->ae->Prop}{EE:af->ae->Prop}{F:MS}
def oV{p:Prop}(h:∀q∈ [p],q):p:=h p 28e4
def aH.oW{a:α}{f:α->MS->R γ}(P:11 ((R.Y a F).aF f)):11 (f a F):=by
 exact 26e3
def aH.nR{a:α}{ob:6e1}{f:α->MS->R γ}(P:11 ((R.aT a F ob).aF f)):51e9/\11 (f a F):=26e9
def adQ{op:rJ}{a b:K}{t:al}{f:ez->MS->R γ}(P:11 ((Qp op a b t F).aF f)):a9 op a b=true/\11 (f () F):=by
 have cR:∀e,11 ((match t with
  |true=> .aT () F [a9 e a b=true]
  |false=>match a9 e a b with
   |true=> 40e4
   |false=> .no 6:26e1).aF f)->a9 e a b=true/\11 (f () F):=by
  intro e P;cases t with
  |true=>exact⟨52e9,P.nR.2⟩
  |false=>
   cases h:a9 e a b with
   |true=>rw[h]at P;exact(238 P.oW)
   |false=>rw[h]at P;exact P.ak
 cases op<;>first|exact⟨H,P.oW⟩|exact cR _ P
universe e
section
variable{x:Fx}{J:aW}{s:ae}{Q:af->ae->Prop}{EE:af->ae->Prop}{F:MS}
def KS{a:K}(h:a.tz<2^64):Builtin.K.Rr a<=64:=intBits_le h
def adR{op:rJ}{a b k:K}{t u:al}{h tb:Tok}(e:binI op a b=G k)(R:0e9)(g:a9 op a b=true)(P:188 (.y k t)):
  102 (Bz op (.y a h) (.y b tb)):=by
 have eg:Q (.y k s.a1) 42e0:=P.jU R _ (.y k t _);clear P;cases op<;>first|exact nS e|cases ar.G.cF e
 ·exact add_int eg
 ·exact sub_int eg
 ·exact mul_int eg ((al.tR.mp g).ak (λg=> .of_left (KS (fq g))) λg=> .of_right (KS (fq g)))
 ·exact mod_int' (fq g) eg
 ·obtain⟨g1,g3⟩:=ba g;clear e;have g2:=fq (ba g1).2;have g1:=fq (ba g1).1;show pow_int g1 ?_ eg;have h1:=KS (fq g3);have h2:(Builtin.K.Rr a:K)<=64:=by exact I.BB.KT H H h1
  have h3:(Builtin.K.Rr a:K)*b<=64*1000:=K.mul_le_mul h2 g2 g1 (394 64);lia
 ·exact lshift_int_small (fq (ba (ba g).1).1) (fq (ba (ba g).1).2) (fq (ba g).2) eg
 ·exact rshift_int (fq g) eg
 ·exact or_int eg
 ·exact and_int eg
 ·show floordiv_int (fq (ba g).1) eg (.a4 (PyProof.noPylong_of_log2 ?_));by_cases h0:b.tz=0
  ·rw[h0];decide+ci
  ·have:=(I.log2_lt h0).bn (fq (ba g).2);lia
universe e
universe e
section
open PySem PySem.W PyProof.Rows PySem.Calls PySem.Spec PySem.SeqAt
set_option backward.match.sparseCases false
section
variable{x:Fx}{J:aW}{s:ae}{EE:af->ae->Prop}{F:MS}
def BD(h:ai)(u:af)(d:cm)(n:I):Prop:=(∃as,Reads h u d as)/\d.jw=true/\d.g9<=n
def adS(h:ai)(us:2e5)(ds:D cm)(n:I):Prop:=(∃as,ReadsAll h us ds as)/\cm.qN ds=true/\cm.Rs ds<=n
def Rt{f:V->ar cm}(ih:∀v u d,f v=G d->22e1->BD h u d n)(r:83 l):∀{ds:D cm},ia f l=G ds->adS h us ds n:=by
 induction r with
 |aR=>intro ds e;obtain H:=11e6;exact⟨⟨[],.aR⟩,by simp only[cm.qN],by simp only[cm.Rs];exact 31e7⟩
 |aQ r _ s=>
  intro ds e;show aN 36e2 λd e1 e=>?_;(show aN 30e9 λds e2 x=>?_;subst x);have a:=ih _ _ _ e1 r;have b:=s e2;exact⟨⟨_,.aQ a.1.jV b.1.jV⟩,by simp only[cm.qN,a.2.1,b.2.1,al.Ru],by simp only[cm.Rs];exact I.max_le.bn ⟨a.2.2,b.2.2⟩⟩
def aps.Rv(e:o.sq=G l)(r:RO w J h p o):∃aP,h.ka p.1 32e3/\cx J h l aP/\p.2=[]/\l.U<=16777216:=by
 cases o with
 |az m t=>obtain H:=11e6;exact⟨_,r.2.2.jV.1,r.2.2.jV.2,r.1,r.2.1⟩
 |au m=>obtain H:=11e6;exact⟨_,r.2.2.jV.1,r.2.2.jV.2,r.1,m.lA▸r.2.1⟩
 |_=>exact 19e2
def d0(r:Reads h u d as)(c:d.jw=true)(z:d.g9=0):BD h u d n:=⟨⟨_,r⟩,c,z▸31e7⟩
def BE(R:0e9)(n:I):∀(v:V) (u:af) (d:cm),eO n F.O v=G d->15e7->BD s.M u d n:=by
 induction n with
 |i5=>exact λapp app app e=>19e2
 |hI n ih=>
  intro v u d e r;have f:∀{l:0e0} {us:2e5} {a:aI},152 a us->171 l->(111 n F.O l).aj .az=G d->BD s.M 2e2 d (n+1):=by
   intro l us a h k e;(show gF h λo w j m hd=>?_;try clear h);(show aN 30e9 λds e1 c=>?_;subst c);have z:=Rt ih k e1;exact(422 ⟨_,.az w j hd z.1.jV⟩)
  cases r with
  |aa=>
   cases u with
   |L=>obtain H:=11e6;exact 418 .L
   |_=>exact 19e2
  |bp b t=>obtain H:=11e6;exact 418 (.bp b)
  |y b t=>obtain H:=11e6;exact 418 (.y b _)
  |ag b t=>
   have e:cC (cm.rM b) (G (cm.ag b)) L=G _:=e;cases q:cm.rM b with
   |false=>rw[q]at e;exact 19e2
   |true=>rw[q]at e;obtain H:=11e6;exact d0 (.ag b _) (by simp only[cm.jw,q]) (by simp only[cm.g9])
  |ch=>exact 19e2
  |ei=>exact 19e2
  |X l a aP h g k=>
   (show gF h λo w j m hd=>?_;try clear h);(show aN 30e9 λds e1 c=>?_;subst c);have z:=Rt ih k e1;exact(422 ⟨_,.qA w j hd z.1.jV⟩)
  |ad l t a aP h w g k=>exact f h k e
  |Z i p P=>
   show aN 36e2 λl e1 e=>?_;show aN (ar.la.mp e1) λo q e1=>?_;have z:=aps.Rv e1 (R.O i o p q P);exact f z.jV.1.iI z.jV.2.1 e
def adT{Q:0e5}(Y:3e6)(R:0e9)(r:eO 12 F.O a=G da)(m:eO 12 F.O b=G db)(k:17 a ua)(rb:17 b ub)
  (h:257 (cm.eqv da db) s):193 .Eq ua ub:=by
 (show hV (BE R _ _ _ _ r k) λe r2 r3=>?_;(show oE e λp r1=>?_;try clear e));(show hV (BE R _ _ _ _ m rb) λe k2 k3=>?_;(show oE e λp k1=>?_;try clear e));show compareEq_reads r1 k1 r2 k2 ?_ h;exact I.x6 (I.BF (I.tS _ (20*d)) (I.dV (I.KX ..) (I.dV r3 aq))) Y.jd
def adU{Q:0e5}(Y:3e6)(R:0e9)(r:eO 12 F.O a=G da)(m:eO 12 F.O b=G db)(k:17 a ua)(rb:17 b ub)
  (h:257 (!cm.eqv da db) s):193 .gL ua ub:=by
 (show hV (BE R _ _ _ _ r k) λe r2 r3=>?_;(show oE e λp r1=>?_;try clear e));(show hV (BE R _ _ _ _ m rb) λe k2 k3=>?_;(show oE e λp k1=>?_;try clear e));show compareNe_reads r1 k1 r2 k2 ?_ h;exact I.x6 (I.BF (I.tS _ (20*d)) (I.dV (I.KX ..) (I.dV r3 aq))) Y.jd
universe e
def Rw{bc:gT}{w:eB}{apv:Type}[qO apv]{gZ:x7 bc w apv}{h:ai}{a:aI}{bK:31e5}(d:h.qP gZ a bK):(bK.aj (·.1)).dX:=by
 (show sQ d λs s s s s s s s x=>?_;try clear d);exact x
section
variable{x:Fx}{J:aW}{s:ae}{EE:af->ae->Prop}{F:MS}
def nE(x:Fx)(J:aW)(h:ai)(u:af)(l:5e6):Prop:=
 ∃a,u= 2e2/\(a==tu)=false/\((∃bK,h.qP (oG pw x.w) a bK/\Bq J h l bK)\/(∃bK,h.qP (tM pw x.w) a bK/\Br J h l bK))
def BG(J:aW)(h:ai)(o:9e5)(o':12e4):Prop:=match o with
 |G v=>∃u,o'=G u/\22e1
 |L=>o'=L
def BH:tJ a k->tJ b k'->m0 k k'=bM (a=b):=by intro h x;(show oE h λe s=>?_;try clear h;subst s);(show oE x λe s=>?_;try clear x;subst s);rfl
def BI:tK a k->tK b k'->m0 k k'=bM (a=b):=by intro s h;subst s;subst h;rfl
def Rx{apv:Type}[qO apv]{f:38e7}(e:∀{a b k s},f a k->f b s->m0 k s=bM (a=b)){h:ai}{a:apv}{k:V}(x:f a k){l:5e6}{bK:31e5}(r:RK f J h l bK):BG J h (lkV l k) (valueAt bK a):=by
 induction r with
 |aR=>rfl
 | @aQ p q l bK r _ ih=>
  refine BG J h (match m0 p.1 k with|true=>37e6|false=>lkV l k) (ar.aj (·.2) (match bM (q.1=a)with|true=>G q|false=>bK.nw _));rw[e r.1 x];cases bM (q.1=a)with
  |true=>exact⟨_,H,r.2⟩
  |false=>exact ih
def adV{h:ai}{o:aA}{bK:284 af}{w:eB}(d:o.qL (tM pw w) bK)(e:bK=[]):o.qL (oG pw w) []:=by
 subst e;(show uF d λes ep h1 h2 h3 x a=>?_;try clear d);clear h3;obtain⟨es⟩:=es;cases x;exact⟨#[],ep,h1,h2,λe s=>by simp at s,.aR,D.kS⟩
def adW{h:ai}{o:aA}{bK:D (K×af)}{w:eB}(d:o.qL (oG pw w) bK)(e:bK=[]):o.qL (tM pw w) []:=by
 subst e;(show uF d λes ep h1 h2 h3 x a=>?_;try clear d);clear h3;obtain⟨es⟩:=es;cases x;exact⟨#[],ep,h1,h2,λe s=>by simp at s,.aR,D.kS⟩
def x8{h:ai}{u:af}{l:5e6}(apr:nE x J h u l)(k:344 (nI p.1)=true):∃a bK,u= 2e2/\(a==tu)=false/\h.qP (oG pw x.w) a bK/\Bq J h l bK:=by
 (show dU apr λa e n b=>?_;try clear apr;obtain(⟨bK,d,r⟩|⟨bK,d,r⟩):=b)
 ·exact⟨a,bK,e,n,d,r⟩
 ·cases r with
  |aR=>
   show aN (ai.lZ.mp d) λo s hd=>?_;exact⟨a,[],e,n,ai.lZ.bn ⟨o,s,adV (h:=h) hd H⟩,.aR⟩
  |aQ r=>exact bL ((bC nI r.1).bi.aV (ba k).1) al.lM
def BJ{h:ai}{u:af}{l:5e6}(apr:nE x J h u l)(k:344 (rN p.1)=true):∃a bK,u= 2e2/\(a==tu)=false/\h.qP (tM pw x.w) a bK/\Br J h l bK:=by
 (show dU apr λa e n b=>?_;try clear apr;obtain(⟨bK,d,r⟩|⟨bK,d,r⟩):=b)
 ·cases r with
  |aR=>
   show aN (ai.lZ.mp d) λo s hd=>?_;exact⟨a,[],e,n,ai.lZ.bn ⟨o,s,adW (h:=h) hd H⟩,.aR⟩
  |aQ r=>exact bL ((bC rN r.1.jV).bi.aV (ba k).1) al.lM
 ·exact⟨a,bK,e,n,d,r⟩
def Ry(z:BG J h o o'):o'.ir=o.ir:=by
 cases o with
 |L=>have z:o'=L:=z;rw[z];rfl
 |G v=>(show aN z λu e s=>?_;try clear z);rw[e];rfl
set_option tactic.hygienic true in
theorem KY{l:5e6}{k:V}{m u:af}{r:9e5}{h:ai}(apr:nE x J h u l)(e:qC l k=G r)(v:RV J h k m):
  ∃(apv:Type) (_:qO apv) (gZ:x7 pw x.w apv) (a:aI) (bK:31e5) (p:apv),u= 2e2/\(a==tu)=false/\h.qP gZ a bK/\gZ.is p m=true/\BG J h r (valueAt bK p):=by
 unfold qC at e;cases q:nJ l k with
 |false=>rw[q]at e;cases e
 |true=>
  rw[q]at e;cases e;clear e;unfold nJ at q;cases v<;>dsimp only at q<;>first|cases q|skip
  ·rename_i i t tk;(show jC (x8 apr q) λa bK b n d s=>?_;subst b);exact⟨_,_,oG pw x.w,a,bK,i,H,n,d,by simp[oG,af.isInt],Rx BH ⟨_,H⟩ s⟩
  ·rename_i i tk;(show jC (BJ apr q) λa bK b n d s=>?_;subst b);clear apr;exact⟨_,_,tM pw x.w,a,bK,i,H,n,d,by simp[PySem.tM,af.isStrOf],Rx BI H s⟩
def adX{Q:0e5}(apr:nE x J s.M u l)(e:qC l k=G r)(p:17 k uk)(h:257 r.ir 42e0):
  193 .In uk u:=by
 obtain(⟨apv,_,gZ,a,bK,m,H,n,d,b,z⟩):=KY apr e p;clear apr;exact wpAny_in_of b n d.mapOf (by rw[Ry z];exact h)
def adY{Q:0e5}(apr:nE x J s.M u l)(e:qC l k=G r)(p:17 k uk)(h:257 (!r.ir) 42e0):
  193 .AS uk u:=by
 obtain(⟨apv,_,gZ,a,bK,m,H,n,d,b,z⟩):=KY apr e p;clear apr;exact wpAny_notIn_of b n d.mapOf (by rw[Ry z];exact h)
def Rz{Q:0e5}(apr:nE x J s.M u l)(e:qC l k=G 2e4)(p:17 k uk)(h:∀w,17 v w->Q w 42e0):
  102 (pm u uk):=by
 obtain(⟨apv,_,gZ,a,bK,m,H,n,d,b,z⟩):=KY apr e p;clear apr;(show aN z λw e r=>?_;try clear z);exact wpAny_getItem_of b d.mapOf e (h w r)
def KZ:∀{l:0e0} {us:2e5} {is:D K},lR l=G is->83 l->tr us is:=by
 intro l;induction l with
 |aR=>intro us is e r;cases r;cases e;exact .aR
 |aQ v l s=>
  intro us is e r;cases r with
  |aQ r x=>
  cases r<;>first|cases e|skip
  (show aN 30e9 λb e1 a=>?_;subst a);clear e;exact .aQ _ _ (s e1 x)
universe e
def x9(o:aA):bP iQ:=match o.bf with
 | .bw es _=>es
 |_=> #[]
def eK(e:iQ):al:=af.isInt e.tU e.cR&&bM (hashInt e.tU=e.tU)
def dO(apt:26e2):aA:=(92 apt.gG apt.U)
def adZ(apt:26e2)(s:apt.dM eK=true)(h:(apt.aj (·.tU)).dX):(dO apt).qL (oG pw w) (apt.aj λe=>(e.tU,e.oT)):=by
 show⟨_,apt.U,⟨H,H,H⟩,H,λe x=>?_,?_,?_⟩
 ·have z:=ba (D.iw.mp s e (D.mem_toArray.mp x));exact⟨e.tU,z.1,(fq z.2).bi⟩
 ·refine Pairs _ apt _;clear h;induction apt with
  |aR=>exact .aR
  |aQ p apt ih=>exact .aQ (ba (ba s).1).1 H (ih (ba s).2)
 ·rw[D.rC];exact h
def sb(u:af):V:=match u with
 | .y i _=> 6e5
 |u=> 29e6
def sd(P:ay)(v:af):ar (aI×aA):=match v with
 | .N a=>(8e0).nw λp=>341 a
 |_=>L
def ya(o:aA):ar 2e5:=match o.bf with
 | .cH xs _=>cC (decide (o.bj= 26e5)&&I.g6 xs.an 16777216) (G xs.gi) L
 |_=>L
def toG(P:ay)(v:af):V:=match v with
 | .ag s _=> .ag s
 | .bp b=> .bp b false
 |v=>((sd P v).cr λq=>ya q.2).ak (sb v) λus=> .X (us.aj sb)
def yb(P:ay)(a:I):26e2:=((sd P 2e2).ak #[] λq=>x9 q.2).gi
section
variable{P:ay}{h:ai}{J:aW}(A:hb h (KL P))
def yc(h:sd P v=G q):v= .N q.1/\q∈8e0:=by
 cases v with
 |N a=>exact⟨bC af.N (I.f0 (D.find?_some (p:=λp:aI×aA=>341 a) h)).bi,D.uQ (p:=λp:aI×aA=>341 a) h⟩
 |_=>exact nN h
def RA(us:2e5):83 (us.aj sb):=by
 induction us with
 |aR=>exact .aR
 |aQ u us ih=>exact .aQ (by cases u<;>constructor) ih
def ad0(e:ya o=G us)(s:14e4=0e4):RV J h (.X (us.aj sb)) 2e2:=by
 unfold ya at e;cases hd:o.bf with
 |cH xs n=>
  rw[hd]at e;cases c:bM (o.bj= .aB "tuple")&&I.g6 xs.an 16777216 with
  |true=>
   dsimp only at e;rw[c]at e;obtain H:=11e6;exact .X _ a xs.gi ⟨o,s,fq (ba c).1,n,hd⟩ (368 (I.cz (ba c).2)) (RA _)
  |false=>dsimp only at e;rw[c]at e;exact 19e2
 |_=>rw[hd]at e;exact 19e2
include A
def RC(v:af):RV J h (toG P v) v:=by
 have z:∀{w:V},RV J h w v->RV J h (((sd P v).cr λq=>ya q.2).ak w λus=> .X (us.aj sb)) v:=λ{w} r=>by
  cases e:(sd P v).cr λq=>ya q.2 with
  |L=>exact r
  |G us=>
   (show aN 36e2 λs e1 e2=>?_;obtain⟨a,o⟩:=s);rw[(yc e1).1];exact ad0 e2 (A _ (yc e1).2)
 cases v with
 |ag=>exact .ag ..
 |bp=>exact .bp ..
 |y=>exact z (.y ..)
 |_=>exact z 14e9
universe e
def ad1(P:ay):tx.aj (λp=>sd P 7e2)=tx.aj λp=>G (p.1,dO (yb P p.1)):=av
def ad2(P:ay):tx.dM (λp=>(yb P p.1).dM eK&&(decide ((yb P p.1).aj (·.tU)).dX&&!(p.1==tu)))=true:=av
def ad3(P:ay):tx.aj (·.2)=tx.aj λp=>(yb P p.1).aj λe=>(0 e.tU,toG P e.oT):=av
def ad4(A:hb h 36e4)(m:(a,l)∈tx):nE x J h 2e2 l:=by
 have z:=ba (243 (ad2 x.w.bV) m);have s:=ba z.2;show⟨a,H,al.w8 _▸s.2,.a4 ⟨_,ai.lZ.bn ⟨_,A _ (yc (110 (ad1 x.w.bV) m)).2,adZ _ z.1 (fq s.1)⟩,?_⟩⟩;rw[show l=_ from 110 (ad3 x.w.bV) m];generalize yb x.w.bV a=apt;induction apt with
 |aR=>exact .aR
 |aQ e apt ih=>exact .aQ ⟨25e1,RC A _⟩ ih
noncomputable def ad5(P:ay)(k:I):12e4:=(K8 (x9 (34 gh 2135 143 144)) 5e5).or (K8 (x9 13e0) 5e5)
def gl_tab(P:ay):gl.aj 52e5=gl.aj λp=>(ad5 P p.1).aj (toG P):=av
def nT{α:Type}(p:I×α)(l:34e7)(k:I):19 (p::l)=142 p.1 k 37e6 (19 l):=av
def BK{α:Type}(p:I×α)(l:34e7)(k:I)(v:α):fw (p::l) k v=142 p.1 k ((p.1,v)::l) (p::fw l k v):=av
def iX{α:Type}{l:34e7}{k:I}{v:α}(e:19 l=2e4):(k,v)∈l:=by
 induction l with
 |aR=>exact 19e2
 |aQ p l ih=>
  rw[nT]at e;cases q:I.bZ p.1 k with
  |true=>
   rw[q]at e;obtain H:=11e6;rw[<-42e5];exact D.dQ ..
  |false=>rw[q]at e;exact 54 (ih e)
def RD{P:ay}{h:ai}{J:aW}(A:253 h){k:I}{v:V}(e:19 gl=2e4):
  ∃u,22e1/\(h.jI iD 5e5=G u\/(h.jI iD 5e5=L/\h.jI mW 5e5=G u)):=by
 (show aN (ar.hh.mp (110 (gl_tab P) (iX e)).bi) λu e1 s=>?_;subst s);have e3:h.jI iD 5e5=K8 (x9 (34 gh 2135 143 144)) 5e5:=by unfold ai.jI;rw[k3 A];rfl
 have e0:h.jI mW 5e5=K8 (x9 13e0) 5e5:=by unfold ai.jI;rw[k0 A];rfl
 rw[e3,e0];exact⟨u,RC A u,ar.ad6.mp e1⟩
section
variable{x:Fx}{J:aW}{s:ae}{EE:af->ae->Prop}{F:MS}{Q:af->ae->Prop}{d:I}
def RE{A:dg}(Y:3e6)(R:0e9){k:I}{v:V}{id:am}(h:id=5e5)(a:39e1=G .lB)(e:19 gl=2e4)(P:∀u,15e7->Q u s):
  aY (bh pw x.w) A (yd x.ab id) Q EE s:=by
 subst h;show aN (RD (J:=J) R.d8 e) λu r z=>?_;rw[ad7 Y.fn a];unfold loadGlobal;rw[Y.vA,Y.jP];show bg (ye (.vD (ph R.d8)) ?_);rcases z with z|⟨z,b⟩
 ·rw[z];exact bX (P _ r)
 ·rw[z];show bg (ye (.vD (At R.d8)) ?_);rw[b];exact bX (P _ r)
def ad8(Y:3e6)(R:0e9){k:I}{v:V}{id:am}(h:id=5e5)(a:39e1=G .lB)(e:19 gl=2e4)(P:188 v):
  102 (yd x.ab id):=RE Y R h a e λu r=>P.fL R r
def ad9(Y:3e6)(R:0e9){k:I}{v:V}{id:am}(b:id=5e5)(h:39e1=12e3)(e:19 F.T=2e4)(P:188 v):
  102 (yd x.ab id):=by
 subst b;obtain⟨m,a,hm⟩:=R.bq.iP;show aN (hm k v h e) λu e1 r=>?_;exact RG Y.fn h a e1 (P.fL R r)
def aea(Y:3e6)(R:0e9){k:I}{v:V}{id:am}(a:id=5e5)(h:39e1=18e8)(e:19 F.T=2e4)(P:188 v):
  102 (yd x.ab id):=by
 subst a;obtain(⟨c,u,p,b,r,_⟩):=R.bq.eV k v 25e7 e;exact wpAny_loadName_cell Y.fn h p b (P.fL R r)
def aeb(Y:3e6)(R:0e9){k:I}{v:V}{id:am}(m:id=5e5)(h:39e1=23e5)(e:19 F.T=2e4)(a:(id==55e9)=false)(P:188 v):
  102 (yd x.ab id):=by
 subst m;obtain(⟨c,u,p,b,r,_⟩):=R.bq.eV k v (.aE h) e;exact RH Y.fn h p b (P.fL R r) a
universe e
section
variable{x:Fx}{J:aW}{s:ae}{EE:af->ae->Prop}{F:MS}{Q:af->ae->Prop}{d:I}
def aec{A:dg}{h:ai}{a b:V}{u w:af}{c:al}(e:eq1 a b=G c)(r:146 a)(q:RV J h b w)(s:ae):EqAt A s u w c:=
 oO e (λe1=>oB e1 λp h1 e2=>oB e2 λm h2 e3=>by
  cases V.r_ h1;cases V.r_ h2;cases r using tI.cE;cases q using tI.cE
  clear e e1 e2
  cases x:pB u&&pB w with
  |false=>rw[x]at e3;exact nS e3
  |true=>rw[x]at e3;rw[KN (ba x).1,KN (ba x).2,<-ar.G.cF e3];exact EqAt.fF _)
 λe1=>oB e1 λp h1 e2=>ap3 e2 λm h2=>by
  clear e2 e1 e;cases V.y_ h1;cases V.y_ h2;cases r using xV.cE;cases q using xV.cE;clear h2 h1;exact λbc w E Q k=>eqBool_bytes (by simpa using k)
def aed{A:dg}{h:ai}{l:0e0}{us:2e5}(r:83 l):∀{m:0e0} {p:2e5} {b:al},cx J h m p->eqB l m=G b->
  ∃e:I->al,us.U=p.U/\(∀(s:ae) j (h1:j<us.U) (h2:j<p.U),EqAt A s us[j] p[j] (e j))/\(D.dS us.U).dM e=b:=by
 induction r with
 |aR=>
  intro m p b q e;cases q with
  |aR=>exact⟨λk=>true,H,λk j h=>bL h (I.K9 _),11e6⟩
  |aQ=>exact 18e0
 | @aQ x u l us r o n=>
  intro m p b q e;cases q with
  |aR=>exact 18e0
  | @aQ app w m p q v=>
   show aN 36e2 λg e1 e=>?_;(show aN 30e9 λc e2 i=>?_;subst i);clear e;show dU (n v e2) λf h1 h2 h3=>?_;show⟨λj=>j.cE g f,bC (· +1) h1,λs j=>j.cE (λk k=>aec e1 r q s) λj a b=>h2 s j (I.RI a) (I.RI b),?_⟩;rw[D.m7,D.range_succ_eq_map,D.te,D.all_map,<-h3];rfl
def aps.vE(e:o.li=G l)(r:RO w J h p o):∃aP,h.ka p.1 32e3/\cx J h l aP/\p.2=[]/\l.U<=16777216:=by
 cases o with
 |az m t=>obtain H:=11e6;exact⟨_,r.2.2.jV.1,r.2.2.jV.2,r.1,r.2.1⟩
 |_=>exact 18e0
def RJ{os:1e0}{a b:V}{c t:al}(e:pD os a b=G (c,t)):∃s h,eO 12 os a=G s/\eO 12 os b=G h/\c=cm.eqv s h:=by
 show aN 36e2 λs x e=>?_;show aN 30e9 λh r e=>?_;exact⟨s,h,x,r,(bC (·.1) e).bi⟩
def aee(Y:3e6)(R:0e9){a b:V}{v w:af}{c t:al}(e:vEq F.O a b=G (c,t))(u:17 a v)(rb:17 b w)(q:257 c s):
  193 .Eq v w:=by
 rcases ar.ad6.mp e with e|⟨_,e⟩
 ·(show jB (RJ e) λC B h k z=>?_;subst z);exact adT Y R h k u rb q
 ·show oB e λi h1 e1=>oB e1 λj h2 e2=>?_;cases V.o_ h1;cases V.o_ h2;clear e e1 h1 h2;cases u using mG.cE with|Z p apw=>
  cases rb using mG.cE with|Z apD g=>
  cases n:I.bZ i j with
  |true=>rw[n]at e2;exact nS e2
  |false=>
   rw[n]at e2;show oB e2 λl r e=>oB e λm hm e=>oB r λo S r=>oB hm λo' W hm=>?_;show aN 30e9 λapp e1 e2=>?_;obtain H:app=c:=bC (·.1) e2;clear e2;show dU (aps.vE r (42 i S apw)) λus h P apq=>?_;show dU (aps.vE hm (R.O j _ apD W g)) λapE k apA apq=>?_;show dU (aed (A:=x.A.fh) P apA e1) λf h1 h2 h3=>?_;clear e1;show eq_listAt h.iI k.iI h1 (I.x6 bN Y.jd) (e:=f) (λj a b=>h2 s j a b) ?_;clear e;rw[show(D.dS (189 us)).dM f=app from h3];exact q
def aef(Y:3e6)(R:0e9){a b:V}{r h:af}{c t:al}(e:pD F.O a b=G (c,t))(m:17 a r)(rb:17 b h)(v:257 (!c) s):
  193 .gL r h:=by
 (show jB (RJ e) λq w p n k=>?_;subst k);clear e;exact adU Y R p n m rb v
def BL(r:146 a):(u==af.L)=ty a:=by
 cases r with
 |aa=>cases u<;>rfl
 |_=>rfl
def aeg{p:9e3}(R:0e9){i:I}(h:J[i]? =5e1):(p.1==tu)=false:=
 se.bn λq=>bL (q▸R.gz p.1 ⟨p,D.jc h,D.dQ ..⟩) aq
def aps.di_{o:aps}{m}(e:o.di=G m):o= .bw m:=by
 cases o with
 |bw=>exact 11e6▸H
 |_=>exact 18e0
def aeh{m}(e:vh u=G m):∃d,u= .N d/\Qq d=G m:=by
 cases u with
 |N d=>exact⟨d,H,e⟩
 |_=>exact 18e0
def yf(R:0e9){b:V}{u:af}{l:5e6}(e:AT F b=G l)(r:17 b u):nE x J s.M u l:=
 oO e (λe=>oB e λp h1 e=>by
  (show aN (aeh e) λd m e=>?_;subst m)
  cases V.r_ h1;cases r using tI.cE;exact ad4 R.d8 (iX e))
 λe=>oB e λi h1 e=>oB e λo n e=>by
  cases aps.di_ e;clear e;cases V.o_ h1;clear h1;cases r using mG.cE with|Z p k=>
  show gq (42 i n k) λh h o a z=>?_;exact⟨p.1,H,aeg R k,z.f5 (.f5 λh w=>⟨377 o a w.1,w.2⟩) (.f5 λh w=>⟨377 o a w.1,w.2⟩)⟩
def RL(h:vh u=G l):AT F 29e6=G l:=by
 refine(vh u).or L=_;rw[h];rfl
def RM{C:Prop}(R:0e9)(e:xw a b F=G (c,t))(v:17 a ua)(rb:17 b ub)
  (ht:∀{apr aP i tk is},ua= .y i tk->ub= 43e4->jm s.M apr 32e3->tr aP is->is.fP (· ==i)=c->C) (hd:∀{l r},nE x J s.M ub l->qC l a=G r->r.ir=c->C):C:=
 oO e (λe1=>oB e1 λl h1 e2=>oB e2 λis k e3=>by
  show aN (ar.hh.mp e3) λp h2 e4=>?_
  clear e3
  cases V.t_ h1;cases V.i_ h2
  clear h2
  cases rb using KM.cE with|X apr aP m h n=>cases v using vy.cE;exact ht H H m (KZ k n) (bC (·.1) e4))
 λe=>oB e λl h e=>by
  show aN 30e9 λr e1 e2=>?_;clear e;exact hd (yf R h rb) e1 (bC (·.1) e2)
def aei(R:0e9)(e:xw a b F=G (c,t))(r:17 a ua)(rb:17 b ub)(p:∀k,257 c 24e6):193 .In ua ub:=
 RM R e r rb (λh1 h2 n m h=>by subst h1 h2;exact in_tuple_ints n m (h▸p s.a1)) λapr e1 h=>adX apr e1 r (h▸p _)
def aej(R:0e9)(e:xw a b F=G (c,t))(r:17 a ua)(rb:17 b ub)(p:∀k,257 (!c) 24e6):193 .AS ua ub:=
 RM R e r rb (λh1 h2 n m h=>by subst h1 h2;exact notin_tuple_ints n m (h▸p s.a1)) λapr e1 h=>adY apr e1 r (h▸p _)
def RN(e:xx o=G (c,t)):o=G (!c,t):=by
 (show aN 30e9 λs h e=>?_;obtain⟨a,b⟩:=s);obtain H:(!a)=c:=bC (·.1) e;obtain H:b=t:=bC (·.2) e;clear e;rw[h,al.not_not]
def BM{f:K->K->al}{C:af->af->Prop}(e:i2 f a b=G (c,t))(x:RV J h a ua)(rb:RV J h b ub)(g:∀i j tk s,f i j=c->C (.y i tk) (.y j s)):C ua ub:=
 oB e λp h1 e1=>by
  clear e;show aN (ar.hh.mp e1) λq h2 e2=>?_;clear e1;cases V.i_ h1;cases V.i_ h2;cases x using vy.cE;cases rb using vy.cE;clear h2 h1;exact g _ _ _ _ (bC (·.1) e2)
def RP{a b:V}{s:af}{c t d:al}{C:154 af}(e:AU b a d=G (c,t))(rb:RV J h b s)(g:(ty a !=d)=c->C .L):C s:=by
 unfold AU at e;cases z:ty b with
 |false=>rw[z]at e;exact 18e0
 |true=>
  rw[z]at e;rw[<-BL rb]at z;exact jx z▸g (bC (·.1) 11e6)
def aek(Y:3e6)(R:0e9){a b:V}{p r:af}{c t:al}(e:lT op a b F=G (c,t))(m:17 a p)(rb:17 b r)
  (hQ:∀k,257 c 24e6):193 op p r:=by
 have h0:257 c s:=hQ s.a1;cases op with
 |Eq=>exact aee Y R e m rb h0
 |gL=>exact aef Y R (RN e) m rb (by simpa using h0)
 |Lt=>exact BM (C:=λp r=>193 .Lt p r) (f:=λi j=>decide (i<j)) (a:=a) (b:=b) e m rb λh h h h q=>PySem.P.lt_int (q▸h0)
 |lp=>exact BM (C:=λp r=>193 .lp p r) (f:=λi j=>336 i j) (a:=a) (b:=b) e m rb λh h h h q=>PySem.P.le_int (q▸h0)
 |Gt=>exact BM (C:=λp r=>193 .Gt p r) (f:=λi j=>decide (i>j)) (a:=a) (b:=b) e m rb λh h h h q=>PySem.P.gt_int (q▸h0)
 |oM=>exact BM (C:=λp r=>193 .oM p r) (f:=λi j=>decide (i>=j)) (a:=a) (b:=b) e m rb λh h h h q=>PySem.P.ge_int (q▸h0)
 |Is=>exact RP (C:=λr=>193 .Is p r) e rb λq=>PySem.is_none (by rw[BL m];simpa [<-q]using h0)
 |oK=>exact RP (C:=λr=>193 .oK p r) e rb λq=>PySem.isNot_none (by rw[BL m];simpa [<-q]using h0)
 |In=>exact aei R e m rb hQ
 |AS=>exact aej R (RN e) m rb (by simpa using hQ)
universe e
section
variable{α β γ δ:Type}{x:Fx}{J:aW}{s:ae}{EE:af->ae->Prop}{br:aW->ai->α->δ->Prop}{Q:δ->ae->Prop}{w:I}{m:aW}{h:ai}
def eE{C:Prop}{f:β->54e0}(P:11 (gN o w f))(g:∀a,o=11e3->11 (f a)->C):C:=by
 cases o with
 |L=>exact P.ak
 |G a=>exact g a H P
def fV{C:Prop}(P:11 (gB b w r))(g:b=true->27e7->C):C:=by
 cases b with
 |false=>exact P.ak
 |true=>exact g H P
def kT{C:Prop}(P:11 (cC b r r'))(g:b=true->27e7->C)(g':b=false->11 r'->C):C:=by
 cases b with
 |false=>exact g' H P
 |true=>exact g H P
@[elab_as_elim] def m8 {C:V->af->Prop} {f:K->al->Internal.R α} (r:RV m h v u) (P:aH x J s (gI v w f) br Q EE) (g:∀i t tk,aH x J s (f i t) br Q EE->C (.y i t) (.y i tk)):C v u:=by
 cases r with
 |y i t tk=>exact g i t tk P
 |_=>exact P.ak
@[elab_as_elim] def La {C:V->af->Prop} {f:I->Internal.R α} (r:RV m h v u) (P:aH x J s (gO v w f) br Q EE) (g:∀i p,m[i]? =G p->aH x J s (f i) br Q EE->C (.Z i) (.N p.1)):C v u:=by
 cases r with
 |Z i p e=>exact g i p e P
 |_=>exact P.ak
def RQ{C:Prop}{f:I->54e0}(P:11 (A0 v w f))(g:∀a,v= 26e0->11 (f a)->C):C:=by
 cases v with
 |aa u=>cases u with
  |N a=>exact g a H P
  |_=>exact P.ak
 |_=>exact P.ak
def ael{C:Prop}{f:am->54e0}(P:11 (QB v w f))(g:∀a,v= .ag a->11 (f a)->C):C:=by
 cases v with
 |ag a=>exact g a H P
 |_=>exact P.ak
@[elab_as_elim] def gC_ {C:D V->D af->Prop} {f:V->D V->Internal.R α} (e:cx m h as us) (P:aH x J s (gC as w f) br Q EE) (g:∀a u as us,RV m h a u->cx m h as us->aH x J s (f a as) br Q EE->C (a::as) (u::us)):C as us:=by
 cases e with
 |aR=>exact P.ak
 |aQ r e=>exact g _ _ _ _ r e P
@[elab_as_elim] def BN {C:D V->D af->Prop} (e:cx m h as us) (P:aH x J s (g0 as w r) br Q EE) (g:aH x J s r br Q EE->C [] []):C as us:=by
 cases e with
 |aR=>exact g P
 |aQ=>exact P.ak
@[elab_as_elim] def lC {C:D V->D af->Prop} {f:V->Internal.R α} (e:cx m h as us) (P:aH x J s (g1 as w f) br Q EE) (g:∀a u,RV m h a u->aH x J s (f a) br Q EE->C [a] [u]):C as us:=by
 cases e with
 |aR=>exact P.ak
 |aQ r e=>exact BN e P λP=>g _ _ r P
universe e
section
variable{α β γ δ:Type}{x:Fx}{J:aW}{s:ae}{EE:af->ae->Prop}{F:MS}{d:I}
def aK.bG(R:0e9)(o:2e1):161 ⟨F.O,F.T,o⟩:=⟨R.d8,R.cU,R.O,R.nd,R.gz,R.up,R.bq,R.bI,R.hM,R.b3,R.hw,R.gD,R.fy,R.dD,R.os,R.cW⟩
def BO{Q:28e9}(e:lr F.O v=G (b,t))(r:15e7)(p:∀k,Q b 24e6):
  102 (PySem.lr u):=by
 have h0:Q b s:=p s.a1;cases v with
 |aa w=>
  cases r using tI.cE;cases z:pB u with
  |false=>
   have e:cC (pB u) (G (false,false)) L=G (b,t):=e;rw[z]at e;exact 18e0
  |true=>
   cases KN z;cases bC (·.1) (ar.G.cF e);exact truthy_none h0
 |bp b t=>cases r using KJ.cE;cases bC (·.1) (ar.G.cF e);exact Lb h0
 |y i t=>
  cases r using vy.cE;cases bC (·.1) (ar.G.cF e);exact truthy_int (by rw[show(i !=0)=bM (i≠0)from al.eq_iff_iff.bn (bne_iff_ne.aV (BP).bi)];exact h0)
 |ch l=>
  cases r using xV.cE with|ch tk h=>
  cases bC (·.1) (ar.G.cF e);exact truthy_bytes (I.dV h aq) (by cases l<;>exact p _)
 |ad l t=>
  cases r using Bp.cE with|ad a aP m q h n=>
  cases bC (·.1) (ar.G.cF e);show wpAny_truthy_list m (K.Lc.bn (I.x6 (I.h8 n.cU) (I.x6 h aq))) ?_;clear e m q h h0;cases n<;>exact p _
 |_=>exact 18e0
def yg{β:Type}{C:38e4}{l:2e1}{d:β}{f:cq->2e1->β}(hd:C d)(s:∀q o,C (f q o)):C (vf l d f):=by
 cases l with
 |aR=>exact hd
 |aQ q o=>exact s q o
def aem{β:Type}{C:38e4}{l:2e1}{d:β}{f g:V->2e1->β}(hd:C d)(s:∀app o,C (f app o))(h:∀app o,C (g app o)):C (Qn l d f g):=yg hd λq o=>by
 cases q with
 |v app=>exact s app o
 |m app=>exact h app o
 |_=>exact hd
variable{Q:af->ae->Prop}
def RV.mk1(r:22e1):146 v.mk1:=by
 cases r with
 |y=>exact .y ..
 |bp=>exact .bp ..
 |_=>first|(constructor<;>assumption)|(rename_i r;exact r)
def vF{o:9e5}{t:al}(P:10 (tA o t F))(R:0e9):∃v,o=2e4/\∀u k,15e7->Q u 24e6:=by
 have z:∀{w},10 (gN o w λv=> 21e8)->∃v,o=2e4/\∀u k,15e7->Q u 24e6:=λP=>eE P λv e P=>⟨v,e,λu k r=>P.jU R k r⟩;cases t with
 |false=>exact z P
 |true=>
  revert P;show aem (C:=λr=>10 r->∃v,o=2e4/\∀u k,15e7->Q u 24e6) z (λapp o' P=>⟨app,oV P.1,λu k r=>?_⟩) λapp o' P=>?_
  ·exact P.2 [] 24e6 u (by rw[D.dZ];exact(R.bG o').a1 k) (Kp.b8 ..) (297 r)
  ·(show aN (ar.hh.mp (oV P.1)) λv e h=>?_;subst h);exact⟨v,e,λu k r=>P.2 [] 24e6 u (by rw[D.dZ];exact(R.bG o').a1 k) (Kp.b8 ..) (297 r.mk1)⟩
def RR(n k:I):(43e7+(n:K)).aJ=n-(k+1):=(bC K.aJ (K.BQ ..)).aV (K.toNat_sub n (k+1))
set_option tactic.hygienic true in
theorem Ld(b:152 a aP)(h:cx J s.M l aP)(w:43e3)(e:dq l i=2e4)(m:∀u,15e7->Q u s):
  102 (pm 2e2 (.y i tk)):=by
 have n:=iy h;unfold dq at e;split at e
 ·rename_i k;show aN (h.dL e) λu e1 r=>?_;have q:=(118 e);exact wpAny_getItem_list (k:=K.cg k) b (K.nU k) (show((k:I):K)<_ by lia) (by simpa using e1) (m u r)
 ·rename_i k;split at e
  ·rename_i p;have p:=I.cz p;show aN (h.dL e) λu e1 r=>?_;have hs:44e5=aP.U:=H;show wpAny_getItem_list_neg b (K.aen k) (by rw[hs];lia) bN (x:=u) ?_ (m u r);rw[hs];have:(43e7+(aP.U:K)).aJ=l.U-(k+1):=by rw[RR,n]
   rw[bb];simpa using e1
  ·cases e
def aeo{k n:I}(h:k+1<=n):43e7+(n:K)=((n-(k+1):I):K):=bN
set_option tactic.hygienic true in
theorem aep(p:jm s.M a 32e3)(h:cx J s.M l aP)(q:43e3)(e:dq l i=2e4)(n:∀u,15e7->Q u s):
  102 (pm 2e2 (.y i tk)):=by
 have w:=iy h;unfold dq at e;split at e
 ·rename_i k;show aN (h.dL e) λu e1 r=>?_;have o:=(118 e);show aeq (k:=K.cg k) p (by have:(0:K)<=K.cg k:=K.nU k;exact K.neg_ofNat_le_ofNat (2^63) k) (show((k:I):K)<_ by lia) (j:=k) ?_ (by simpa using e1) (n u r);unfold RS;have h1:¬(K.cg k<0):=by have:(0:K)<=K.cg k:=K.nU k;exact K.AA bb
  have h2:(0<=K.cg k):=K.nU k;have h3:(K.cg k<44e5):=by refine((k:I):K)<((aP.U:I):K);lia
  simp only[d6 h1,eF h2,eF h3,al.Ru,wE];rfl
 ·rename_i k;split at e
  ·rename_i b;have b:=I.cz b;show aN (h.dL e) λu e1 r=>?_;show aeq p bN bN (j:=l.U-(k+1)) ?_ (by simpa using e1) (n u r);unfold RS;have hs:44e5=aP.U:=H;have h1:(43e7<0):=K.aen k;have m:43e7+44e5=((l.U-(k+1):I):K):=by rw[hs,w];exact aeo b
   have h2:(0<=43e7+44e5):=m▸K.nU _;have h3:(43e7+44e5<44e5):=K.mH (K.aer h1 _) (K.h8 (K.zero_add _));simp only[eY h1,eF h2,eF h3,al.Ru,wE,ar.G.fv];rw[m];exact K.tp _
  ·cases e
def aes(R:0e9)(f:17 a ua)(ri:17 i ap5)(P:10 (xz a i F)):
  102 (pm ua ap5):=by
 induction f using RV.cE with
 |X l a aP n m h=>exact m8 ri P λk t tk P=>(vF P R).ak λv z=>aep n h m z.1 λu r=>z.2 u s.a1 r
 |ad l t a aP n g m h=>exact m8 ri P λk t tk P=>(vF P R).ak λv z=>Ld n h m z.1 λu r=>z.2 u s.a1 r
 |Z o p j=>
  show eE P λob q P=>?_;cases ob with
  |az l t=>
   show gq (42 o q j) λc m aP n h=>?_;exact m8 ri P λk t tk P=>(vF P R).ak λv z=>Ld n.iI h m z.1 λu r=>z.2 u s.a1 r
  |au l=>
   show gq (42 o q j) λc m aP n h=>?_;show m8 ri P λk t tk P=>fV P λd P=>(vF P R).ak λv z=>?_;cases fq d;show Ld (l:=l.et) (i:= -1) n.iI h (408 m) ?_ λu r=>z.2 u s.a1 r;clear h m;have e:=z.1;cases l with
   |aR=>cases e
   |aQ app l=>
    cases ar.G.cF e;clear e;refine(match I.g6 (0+1) (v::l).et.U with|true=>(v::l).et[(v::l).et.U-(0+1)]? |false=>L)=2e4;rw[show I.g6 (0+1) (v::l).et.U=true from I.ble_eq_true_of_le (by simp)];simp
  |bw l=>exact eE P λr hr P=>(vF P R).ak λv z=>Rz (yf (b:= .Z o) R (show(F.dL o).cr aps.di=G l by rw[q];rfl) (.Z o p j)) (z.1▸hr) ri λw rD=>z.2 w _ rD
  |_=>exact P.ak
 |aa w=>exact eE P λl q P=>eE P λr hr P=>(vF P R).ak λv z=>Rz (yf R (RL q) 14e9) (z.1▸hr) ri λw rD=>z.2 w _ rD
 |_=>exact P.ak
universe e
section
variable{x:Fx}{J:aW}{s:ae}{EE:af->ae->Prop}{F:MS}{d:I}{h':ai}
def sf{w:eB}{J i:aW}{h h':ai}(k:f8 J i h h'){p:9e3}(s:∀a∈dT p,∀o,14e4=0e4->18e4=0e4):∀{o:aps},RO w J h p o->RO w i h' p o:=by
 intro o z;cases o with
 |az l t=>(show gq z λq x aP m u=>?_;try clear z;(show oE m λo e=>?_;try clear m));exact⟨q,x,aP,⟨o,359 _ e⟩,hN k u⟩
 |au l=>(show gq z λq x aP m u=>?_;try clear z;(show oE m λo e=>?_;try clear m));exact⟨q,x,aP,⟨o,359 _ e⟩,hN k u⟩
 |bw l=>show gq z λq x o e z=>?_;exact⟨q,x,o,359 _ e,z.f5 (.f5 λc w=>⟨w.1,tO k w.2⟩) (.f5 λc w=>⟨w.1,tO k w.2⟩)⟩
 |bv C d=>obtain(⟨x,v,es,n,sl,q,e1,e2,r⟩):=z;exact⟨x,v,es,n,sl,q,359 _ e1,s v 53e4 _ e2,xZ k r⟩
 |eG b=>exact⟨z.1,z.2.1,359 _ z.2.2⟩
 |cW a b=>obtain(⟨fd,c1,c2,u1,u2,q,e,⟨cc,z,R⟩,⟨o1,f1,d1⟩,⟨o2,f2,apA⟩,r1,r2⟩):=z;exact⟨fd,c1,c2,u1,u2,q,359 _ e,⟨cc,z,k.KP _ _ R⟩,⟨o1,s c1 53e4 _ f1,d1⟩,⟨o2,s c2 53e4 _ f2,apA⟩,dP k r1,dP k r2⟩
 |a8 C d=>
  obtain(⟨x,v,aD,es,n,vs,sl,q,e1,e2,r,P,tb⟩):=z;show⟨x,v,aD,es,n,vs,sl,q,359 _ e1,s v 53e4 _ e2,xZ k r,P,tb.f5 id ?_⟩;intro g;obtain(⟨t,apq,app,f1,f2,V,f,S,j⟩):=g;exact⟨t,apq,app,f1,f2,s t (by unfold dT;rw[q,f1];simp) _ V,f,S,j⟩
def aet{h h':ai}(x:51e3){a:aI}{m}:h.Ns a m->h'.Ns a m:=(by intro s;(show oo s λo es ep e r=>?_;try clear s);exact⟨o,es,ep,x a o e,r⟩)
def RT{p:aW}{h h':ai}{T:0e1}(k:f8 J p h h')(n:51e3)(j:∀c,¬cy J c->c<h.O.an->¬cy p c)(apC:Bw x J h T):Bw x p h' T:=by
 obtain(⟨⟨m,q,hm⟩,i⟩):=apC;show⟨⟨m,aet n q,λs v a b=>?_⟩,λs v a b=>?_⟩
 ·show aN (hm s v a b) λu e r=>?_;exact⟨u,e,dP k r⟩
 ·obtain(⟨c,u,e,w,r,no⟩):=i s v a b;show aN (id w) λo l d=>?_;exact⟨c,u,e,w.eI n,dP k r,j c no (ai.cQ l)⟩
def je{h h':ai}(k:51e3):f8 J J h h':=
 ⟨(by intro a x s;(show aN s λo e r=>?_;try clear s);exact⟨o,k a o e,r⟩),(by intro a x s n;(show aN s λo e r=>?_;try clear s);exact⟨⟨o,k a o e,r⟩,n⟩),λa b n e no=>⟨k _ _ e,no⟩,λx p e=>⟨p,e,H⟩,λx x=>jt.dI λa o e x=>k a o e⟩
def Le{h h':ai}{aC:aW}(b:51e3)(r:∀a,69 aC->14e4=L):56 J x h h':=
 ⟨λa o e s s s s=>b a o e,λa o e s s=>⟨o,b a o e,H,H⟩,λa o e s s=>b a o e,λa o e=>⟨o,b a o e⟩,r⟩
def RW{h h':ai}{aC:aW}(s:51e3)(hs:h.O.an<=h'.O.an)(e:∀a,69 aC->h.O.an<=a):56 J x h h':=
 Le s λa b=>ai.tV (e a b)
def Lf{w:eB}{J:aW}{h:ai}{p:9e3}{a:aI}(s:a∈24e3){o:aps}(z:RO w J h p o):∃q,14e4=G q:=(Ro z a s).f5 λx e=>e.1
def aK.g7(R:0e9){a:aI}(h:14e2):∃q,4e4=G q:=by
 show aN h λp b h=>?_;obtain⟨i,e,H⟩:=D.adP b;exact Lf h (R.O i _ J[i] (D.ie (R.cU▸e)) (D.ie e))
def aK.tW(R:0e9):∀a,FA x a->a<s.M.O.an:=by
 intro a e;obtain(⟨l,r,v,b,h⟩):=e;obtain(⟨_,apt,o',e1,e2,_⟩):=R.gD l r v b;rw[h]at e1;cases e1;exact ai.cQ e2
def aK.jy(R:0e9)(h:50e0)(k:I):241 F k/\32e2:=by
 show⟨⟨λp r=>h _ _ (R.d8 p r),R.cU,λi o p e1 e2=>sf (je h) (λa b o e=>h a o e) (R.O i o p e1 e2),R.nd,R.gz,λa j=>(by show oE (R.g7 j) λq e=>?_;exact ai.cQ (h a q e)),RT (je h) h (λb a b=>a) R.bq,R.bI,R.hM,R.b3,λz n c d=>?_,λl f e v=>(R.gD l f e v).eI λa o b e=>⟨o,h a o e,H⟩,R.fy,R.dD,R.os,jt.Y (λa o e b=>h a o e) R.cW⟩,Le h (by intro a m;(show aN m λp r b=>?_;try clear m);exact nomatch r)⟩;show oE (R.hw z n c d) λw u=>?_;exact⟨w,u.eI h⟩
def aK.ext(R:0e9)(h:50e0)(hs:342 h'.O.an)(k:I):241 F k/\32e2:=R.jy h k
def tX{p:9e3}{a:aI}:69 [p] ↔ a∈24e3:=⟨λ⟨q,s,x⟩=>by rw[D.cZ]at s;subst s;exact x,λh=>⟨p,28e4,h⟩⟩
def aK.Lg(R:0e9)(m:50e0)(hs:342 h'.O.an){p:9e3}{o:aps}
  (v:∀a∈dT p,s.M.O.an<=a/\a<h'.O.an) (hn:(24e3).dX) (RX:∀a,fr x a->a<s.M.O.an) (oX:RO x.w (J++[p]) h' p o) (k:I):
  167 J [p] ⟨F.O++[o],F.T,F.bG⟩ (84 h' k)/\71 [p] h':=by
 have apv:71 [p] h':=RW m hs λa r=>(v a (tX.mp r)).1;have bS:=R.eI apv;have j:∀c,¬cy J c->c<s.M.O.an->¬cy (J++[p]) c:=λc h1 h2 h3=>(jv.mp h3).ak h1 λh=>bL (v c (tX.mp h)).1 (I.jX.bn h2);have W:lx<=s.M.O.an:=351 (R.hM _ 2e6) (RX _ 2e6);show⟨⟨λp v=>m _ _ (R.d8 p v),by simp[R.cU],λi apq q e1 e2=>?_,?_,λa r=>?_,λa r=>?_,RT bS m j R.bq,λa r=>j a (R.bI a r) (RX a r),R.hM,R.b3,λz n c g=>?_,λl P e f=>(R.gD l P e f).eI λa o d e=>⟨o,m a o e,H⟩,λa r=>⟨(122 r).1,j a (122 r).2 (R.tW a r)⟩,R.dD,R.os,jt.Y (λa o e d=>m a o e) R.cW⟩,apv⟩
 ·by_cases u:i<F.O.U
  ·rw[D.kR u]at e1;rw[D.kR (R.cU▸u)]at e2;exact sf bS (λa d o e=>m a o e) (R.O i apq q e1 e2)
  ·have h1:=(118 e1);rw[D.hP,D.RY]at h1;have apA:i=F.O.U:=by exact I.aeu h1 u
   subst apA;rw[28e3,I.jl]at e1;rw[<-R.cU,28e3,I.jl]at e2;cases e1;cases e2;exact oX
 ·rw[D.aev,D.RZ];show⟨R.nd,by simpa using hn,λa r b V=>?_⟩;intro e;subst e;show aN (D.Lh.mp r) λq S app=>?_;have h1:=R.up a ⟨q,S,app⟩;have h2:=(v a (by simpa using V)).1;exact 31 h1 h2
 ·rcases jv.mp r with h|h
  ·exact R.gz a h
  ·exact I.dV W (v a (tX.mp h)).1
 ·rcases jv.mp r with h|h
  ·exact I.mH (R.up a h) hs
  ·exact(v a (tX.mp h)).2
 ·show oE (R.hw z n c g) λw t=>?_;exact⟨w,t.eI m⟩
def aK.m9(R:0e9):∀a,fr x a->a<s.M.O.an:=by
 intro a h;rcases h with H|⟨z,n,b⟩
 ·obtain⟨m,hm,_⟩:=R.bq.iP;exact hm.lt
 ·show gd (R.hw z n a b) λw o e r=>?_;exact 9e1
def aK.vG(R:0e9):∀a,fr x a->∃o,4e4=0e4:=by
 intro a h;rcases h with H|⟨z,n,r⟩
 ·obtain(⟨m,⟨o,es,ep,e,_⟩,_⟩):=R.bq.iP;exact⟨o,e⟩
 ·show gd (R.hw z n a r) λw o b p=>?_;exact⟨o,b⟩
def aK.vH(R:0e9):∀a,FA x a->∃o,4e4=0e4:=by
 intro a e;obtain(⟨l,r,v,b,h⟩):=e;obtain(⟨_,apt,o',e1,e2,_⟩):=R.gD l r v b;rw[h]at e1;cases e1;exact⟨_,e2⟩
def jY{h:ai}(o:aA):∀a q,14e4=G q->(h.b6 o).ao a=G q:=λs s e=>ai.er o e
def vI{h:ai}(o:aA):h.O.an<=(h.b6 o).O.an:=by unfold ai.b6;simp
def Li{h:ai}(o:aA):h.O.an<(h.b6 o).O.an:=by unfold ai.b6;simp
def aK.BR{Q:0e5}(R:0e9){o:aps}(e:50e0)(hz:s.M.O.an<h'.O.an)(P:10 (F.jp o))(k:I)
  (ap6:f8 J (J++[34e3]) s.M h'->RO x.w (J++[34e3]) h' 34e3 o):157 9e9 k:=by
 have apC:=R.Lg (p:=34e3) (o:=o) e (I.jz hz) (λa h=>x4 h ⟨11e7,hz⟩) (D.jf.bn ⟨nofun,.aR⟩) R.m9 (ap6 (R.eI (RW e (I.jz hz) λa h=>x4 (tX.mp h) 11e7))) k;show P.2 [_] _ _ apC.1 apC.2 (.Z _ 34e3 ?_);rw[<-R.cU,28e3,I.jl];rfl
def aK.Lj(R:0e9){apr:aI}(h:s.M.ao apr=L):¬cy J apr:=λo=>(by show oE (R.g7 o) λa e=>?_;exact nN (h.bi.aV e))
def BS{Q:0e5}{apr:aI}{us:2e5}{l:0e0}{t:al}(R:0e9)(p:50e0)(e:h'.gY apr 29e3)(h:s.M.ao apr=L)(r:43e3)(b:cx J h' l us)(P:188 (.ad l t))(k:I):
  157 43e4 k:=by
 have E:=R.jy p k;exact P.bk E.1 E.2 (.ad l t apr us e (R.Lj h) r b)
def R0{Q:0e5}{fz t:al}{us:2e5}{l:0e0}(R:0e9)(h:50e0)(r:171 l)(b:h'.ka s.M.O.an 29e3)(p:43e3)(P:10 (F.mkR fz l t))(k:I):
  157 9e9 k:=by
 unfold MS.mkR at P;cases fz with
 |true=>exact BS R h b.iI 52e0 p (hN (je h) r) P k
 |false=>
  show oE (id b) λn e=>?_;exact R.BR h 9e1 P k λbS=>⟨H,p,us,b,hN bS r⟩
def BT{Q:0e5}{fz t:al}{l:0e0}{us:2e5}(R:0e9)(h:171 l)(P:10 (223 l t))(o:aA)(v:o.bj= 19e6)(hd:∃n,o=(328 29e3 n))(b:o.DQ=false)(k:I):
  us.U<=16777216/\Q 9e9 {s with M:=s.M.b6 o,a1:=k}:=by
 have m:=iy h;have cR:∀bR,bR=F->l.U<=16777216->10 (bR.mkR fz l t)->us.U<=16777216/\Q 9e9 {s with M:=s.M.b6 o,a1:=k}:=by
  intro bR e a p;subst e;show oE hd λn hd=>?_;exact⟨bN,R0 R (jY o) h ⟨n,by rw[<-hd];exact ai.fG _ b⟩ a p k⟩
 unfold MS.kc gv at P;cases t with
 |true=>exact cR F H 52e9 P.nR.2
 |false=>
  dsimp only at P;split at P
  ·rename_i r;exact cR F H (I.cz r) P.oW
  ·exact P.ak
universe e
section
variable{γ δ:Type}{x:Fx}{J:aW}{s:ae}{EE:af->ae->Prop}{F:MS}{d:I}
def tY{f:ez->MS->Internal.R γ}{br:200 γ δ}{Q:38e2}(P:11 ((oQ b t F).aF f)):b=true/\11 (f () F):=by
 unfold oQ at P;cases t with
 |true=>exact⟨52e9,P.nR.2⟩
 |false=>cases b with
  |true=>exact(238 P.oW)
  |false=>exact P.ak
def R1(r:83 l):∀n:I,cx J h (D.gj n l).xq (D.gj n us).xq
 |0=> .aR
 |n+1=>by rw[D.Lk,D.Lk,D.R7,D.R7];exact r.lX (R1 r n)
def Ll(R:0e9)(e:xp F.O v=G l)(r:15e7):∃a aP,u= 2e2/\152 a aP/\cx J s.M l aP/\l.U<=16777216:=
 oO e (λe1=>by
  clear e
  (show aN (ar.hh.mp e1) λp h1 q=>?_;subst q)
  cases V.l_ h1
  cases r using Bp.cE with|ad a aP h c m k=>exact⟨a,aP,H,h,k,m⟩)
 λe1=>oB e1 λi h1 e2=>oB e2 λo b e3=>by
  clear e1;cases V.o_ h1;cases r using mG.cE with|Z p w=>
  show sP (aps.vE e3 (42 i b w)) λaP h1 h2 j n=>?_;exact⟨p.1,_,H,h1.iI,h2,n⟩
variable{Q:af->ae->Prop}
def aew(R:0e9)(q:152 a us)(o:152 b ws)(rl:171 l)(j:cx J s.M m ws)
  (P:10 (223 (l++m) t)):102 (Bz .dw 2e2 (.N b)):=by
 (show gF (id q) λh w p n hd=>?_;obtain(⟨bj,dd,bf,sl⟩):=h);(show gF (id o) λh v k d r=>?_;obtain(⟨f,js,data2,i⟩):=h);simp only at p hd k r;subst p hd k r;have e:bP.mk us++bP.mk ws=bP.mk (us++ws):=by simp
 show oA (BT R (rl.lX j) P (309 ⟨us++ws⟩) H 25e1 H s.a1) λu c=>?_;show concat_meets (51 w) (51 v) noFill_list_add seq_list_add PySem.apu.slot_list_add PySem.apu.entry_list_add (PySem.apu.args_list_add_2 _ _)
  (list_addW a b 29e3 ⟨ws⟩ n d dd js sl i (by rw[f3];simpa using u)) ⟨w,v,?_⟩
 rw[e];exact c
def aex(R:0e9)(m:152 a us)(rl:171 l)(e:jO n=true)
  (P:10 (223 (dN l n) t)):102 (Bz .f4 2e2 (.y n u)):=by
 (show gF (id m) λw h r k hd=>?_;obtain(⟨bj,dd,bf,sl⟩):=w);simp only at r hd;subst r hd;simp only[jO,al.lg,mX]at e;have cR:=listMul_foldl_if (⟨us⟩:16e5) n.aJ;show oA (BT R (R1 rl n.aJ) P {bj:=51e4,bf:=uX.cH (D.i9 (λq v=>q++v) #[] (D.gj (if(⟨us⟩:16e5).jN=true then 0 else n.aJ) 29e3))} H ⟨_,by rw[cR]⟩ H s.a1) λp j=>?_;have i:(⟨us⟩:16e5).an*n.aJ<=16777216:=by
  have:(286 us).xq.U=n.aJ*us.U:=by simp
  rw[bb,I.R8]at p;exact p
 show wpAny_binaryOp_repeat_ref (apq:= "list") (apA:= "int") aq (51 h) (λs'=>Az s' n u) noFill_list_mul apu.fills_int_mul apu.aey repeat_list apu.PH.bY
  (R9 apu.aey (Az s n u) apu.entry_int_rmul (apu.args_int_rmul_2 _ _) (lm_int_rmul_list_any n u a 29e3 k dd sl)
   ⟨h,H,(51 h),R9 apu.slot_list_mul (51 h) apu.entry_list_mul (apu.args_list_mul_2 _ _)
    (lm_list_mul_any a 29e3 k dd sl n u (by simp[Builtin.D.listFitsIndex];exact i4.bi ((λ{a b}=>i4.comm.mp) e)) bN (by unfold Builtin.D.Lm;rw[f3];simpa using i))
    ⟨h,j⟩⟩)
def aez(R:0e9)(q:17 a ua)(rb:17 b ub)(P:10 (Ke fz op a b F)):
  102 (Bz op ua ub):=by
 have cj:∀{a},17 a ua->10 (Kd fz op a b F)->102 (Bz op ua ub):=λ{a} q P=>fV P λe P=>eE P λl w P=>eE P λm hm v=>by
  clear P;(show jC (Ll R w q) λW us o r rl f=>?_;subst o);(show jC (Ll R hm rb) λb' V o apq S f=>?_;subst o);cases fq e;exact aew R r apq rl S v
 induction q using RV.cE with
 |y i t tk=>exact m8 rb P λj u app P=>eE P λk z P=>(adQ P).ak λg P=>adR (u:=false) z R g P
 |ch l tk w=>
  show fV P λe P=>m8 rb P λn u app P=>?_;obtain⟨g,v⟩:=tY P;cases fq e;simp only[xu,al.lg,mX]at g;obtain(⟨⟨⟨g1,g2⟩,g3⟩,h⟩):=g;have h:=I.cz h;show bytes_mul_any (b:=l) (by cases l<;>simp_all) g2 g3 h λt' k=>v.jU R k (.ch _ t' ?_);clear v;have e1:(286 l).xq.U=n.aJ*l.U:=by simp
  have e2:n.aJ*l.U<=n.aJ*16:=I.mul_le_mul_left _ h;clear h;refine(286 l).xq.U<=_;lia
 |ad l t a aP r e w d=>
  cases op with
  |f4=>exact m8 rb P λn u tk P=>(tY P).ak λg P=>aex R r d g P
  |_=>exact cj (.ad l t a aP r e w d) P
 |aa=>exact cj 14e9 P
 |bp=>exact cj (.bp ..) P
 |ag=>exact cj (.ag ..) P
 |X _ _ _ a b c=>exact cj (.X _ _ _ a b c) P
 |ei _ _ a b c=>exact cj (.ei _ _ a b c) P
 |Z i p apA=>exact cj (.Z i p apA) P
universe e
def Ln(lo:8e5)(n:I):vg lo n=lo.ak 0 (kO n):=by cases lo<;>rfl
def Lo(s:8e5)(n:I):xt s n=s.ak n (kO n):=by cases s<;>rfl
def aeA(a b:I):(jq (a:K) (b:K)).aJ=jq a b:=by
 rcases I.le_total a b with h|h
 ·rw[K.Lp (K.BU.bn h),I.Lp h];exact K.tp _
 ·rw[K.max_eq_left (K.BU.bn h),I.max_eq_left h];exact K.tp _
def Sa{α:Type}(us h:8e4)(lo s:8e5):(((bP.mk us).oY 0 (50e5).aJ++bP.mk h)++(bP.mk us).oY (jq 50e5 ((s.ak us.U (kO us.U):I):K)).aJ us.U)=bP.mk (bW us lo s h):=by
 apply bP.jy;rw[bW,Ln,Lo,aeA,K.tp,bP.aeB,bP.aeB,bP.aeC,bP.aeC];simp only[D.extract_eq_drop_take,I.sub_zero,D.drop_zero];congr 1;rw[D.take_of_length_le (by rw[D.sg];exact 11e7)]
def Sb(us:2e5)(lo s:8e5):slicePick 29e3 lo s L=⟨bE us lo s⟩:=by
 rw[slicePick_plain,bE,Ln,Lo];rfl
def Lq{α:Type}(l:8e4)(lo s:8e5):(bE l lo s).U<=l.U:=by
 unfold bE;rw[D.qQ,D.sg];exact I.dV (I.Sc ..) (I.Sd ..)
section
variable{γ δ:Type}{x:Fx}{J:aW}{s:ae}{EE:af->ae->Prop}{F:MS}{d:I}
def Se(lo s:8e5)(r:83 l):cx J h (bE l lo s) (bE us lo s):=by
 unfold bE;rw[iy r];exact(r.fi _).fI _
variable{Q:af->ae->Prop}
def Lr{fz t:al}{l:0e0}{a sl:aI}{us:2e5}{b e:af}{lo h:8e5}(R:0e9)(r:152 a us)(rl:171 l)(n:43e3)
  (hs:s.M.rF sl b e .L) (pl:lf b lo) (pu:lf e h) (P:10 (223 (bE l lo h) t)):102 (pm 2e2 29e5):=by
 have k:=iy rl;show oA (BT R (Se lo h rl) P (309 ⟨bE us lo h⟩) H 25e1 H s.a1) λm p=>?_;exact aeD r hs pl pu .L (by simp) (by rw[Sb];exact p) (364 us.U)
def BV(b:4e9)(lo s:8e5):KBy.Av 21e9 lo s=⟨bE b lo s⟩:=by
 rw[KBc.picked_eq,bE,Ln,Lo];rfl
def aeE{b:4e9}{sl:aI}{r e:af}{lo h:8e5}(R:0e9)(p:106 b.U)
  (hs:s.M.rF sl r e .L) (pl:lf r lo) (pu:lf e h) (P:188 (.ch (bE b lo h))):102 (pm (.iS 21e9 tk) 29e5):=by
 have a:(bE b lo h).U<=16777216:=I.dV (Lq b lo h) p;exact getItem_meets (pq _ _ _) aq FB.aeF FB.entry_bytes_getitem (FB.args_bytes_getitem_2 _ _) (KBc.meets_slice2 21e9 tk _ pl pu)
  ⟨hs,by rw[BV,f3];exact a,λt' k=>by rw[BV];exact P.jU R k (.ch _ t' a)⟩
universe e
def BW(P:ay):(8e0).dM (λp=>I.jP p.1 lx)=true:=av
def Sf(l:1e0):∀(i j:I) (o:aps),(my l i o)[j]? =if i=j/\i<l.U then 0e4 else l[j]? :=by
 induction l with
 |aR=>exact λi j o=>(d6 λh=>bL h.2 (I.K9 i)).bi
 |aQ app l s=>
  intro i j o;cases i with
  |i5=>cases j with
   |i5=>exact(eY ⟨H,I.succ_pos _⟩).bi
   |hI j=>exact(d6 λh=>bL h.1.bi (I.Sg j)).bi
  |hI i=>cases j with
   |i5=>exact(d6 λh=>bL h.1 (I.Sg i)).bi
   |hI j=>
    have ih:=s i j o;refine(my l i o)[j]? =if i+1=j+1/\i+1<l.U+1 then 0e4 else l[j]?;simp only[I.add_lt_add_iff_right,I.add_right_cancel_iff];exact ih
def Ls:∀(l:1e0) (i:I) (o:aps),(my l i o).U=l.U
 | [],_,_=>rfl
 |_::_,0,_=>rfl
 |_::l,i+1,o=>bC (· +1) (Ls l i o)
section
variable{x:Fx}{J:aW}{s:ae}{F:MS}{h':ai}
def aK.si(R:0e9){i j:I}{p q:9e3}(m:J[i]? =5e1)(n:J[j]? =G q){a:aI}(h:a∈24e3)(b:a∈dT q):i=j:=by
 have nd:=R.nd;rw[D.dX,D.yh]at nd;show oE (D.gP.mp m) λli r=>?_;show oE (D.gP.mp n) λe k=>?_;have pw:=nd.2;rw[D.Si]at pw;rcases I.lt_trichotomy i j with z|z|z
 ·exact(pw i j li e z a (by rw[r];exact h) a (by rw[k];exact b) H).ak
 ·exact z
 ·exact(pw j i e li z a (by rw[k];exact b) a (by rw[r];exact h) H).ak
def aK.Sj(R:0e9){i:I}{p:9e3}{a:aI}(apq:J[i]? =5e1)(P:a∈24e3)(h:∀b q,b≠a->8e8=G q->s'.M.ao b=G q)(E:∀q,4e4=G q->ix q=false)
  (oX:f8 J J s.M s'.M->RO x.w J s'.M p o') (hg:s'.dD=s.dD) (Lu:s'.os=s.os):230 (F.cN i o') s'/\71 [] s'.M:=by
 have k:14e2:=⟨p,D.jc apq,P⟩;have tk:jt s.M s'.M:=λb q e t=>h b q (λz=>by subst z;rw[E _ e]at t;cases t) e;clear E;have bS:f8 J J s.M s'.M:=by
  show⟨λb aP e=>?_,λb aP e no=>?_,λb apv n e no=>?_,λd p e=>⟨p,e,H⟩,λd d=>jt.dI tk⟩
  ·show gF e λo e c n dd=>?_;exact⟨o,296 b o (R.By k e _ _ dd c) e,c,n,dd⟩
  ·show aN e λo e r=>?_;exact⟨⟨o,296 b o (no k) e,r⟩,no⟩
  ·exact⟨296 b _ (no k) e,no⟩
 show⟨⟨λq S=>h _ _ (λz=>?_) (R.d8 q S),by rw[R.cU];exact(Ls ..).bi,λj o q e1 e2=>?_,R.nd,R.gz,λb app=>?_,?_,R.bI,R.hM,R.b3,λz n c apA=>?_,λl C e B=>(R.gD l C e B).eI λb o e1 e2=>⟨o,391 o ((R.fy b ⟨l,C,e,B,e1⟩).2 k) e2,H⟩,R.fy,hg.aV R.dD,Lu.aV R.os,tk.Y R.cW⟩,?_⟩
 ·have h1:=D.iw.mp (BW x.w.bV) q S;have h2:=R.gz a k;rw[<-z]at h2;exact 31 (I.sj.mp h1) h2
 ·have f1:(my F.O i o')[j]? =0e4:=e1;clear e1;rw[Sf]at f1;split at f1
  ·rename_i g;(show oA g λapx d=>?_;try clear g;subst apx);rw[apq]at e2;cases f1;cases e2;exact oX bS
  ·rename_i g;have apz:j≠i:=λz=>by
    subst z;exact g ⟨H,by rw[<-R.cU];exact(118 e2)⟩
   exact sf bS (λb app A e=>296 b A (apz (R.si e2 apq app P)) e) (R.O j o q f1 e2)
 ·show oE (R.g7 app) λq e=>?_;clear apq;by_cases apE:b=a
  ·subst apE;show oE (Lf P (oX bS)) λA apu=>?_;exact ai.cQ apu
  ·exact ai.cQ (h b q apE e)
 ·obtain(⟨⟨m,apD,hm⟩,apA⟩):=R.bq;have hL:x.ab.cY≠a:=λz=>R.bI _ 2e6 (z▸k);show⟨⟨m,(by(show oo apD λo es ep e r=>?_;try clear apD);exact⟨o,es,ep,h _ o hL e,r⟩),λV v b c=>?_⟩,λV v b c=>?_⟩
  ·show aN (hm V v b c) λu e r=>?_;exact⟨u,e,30e3⟩
  ·obtain(⟨apF,u,e,⟨oc,apw,W⟩,r,no⟩):=apA V v b c;exact⟨apF,u,e,⟨oc,296 _ _ (no k) apw,W⟩,30e3,no⟩
 ·show gd (R.hw z n c apA) λw oc apw W=>?_;exact⟨w,oc,h _ _ (λapy=>by subst apy;exact R.bI _ (247 z n apA) k) apw,W⟩
 ·show⟨λb q e d d d no=>296 b q (no k) e,λb q e f d=>⟨q,391 q ((R.fy b f).2 k) e,H,H⟩,λb q e t d=>tk b q e t,λb q e=>?_,(by intro b apr;(show aN apr λq S d=>?_;try clear apr);exact nomatch S)⟩
  ·by_cases app:b=a
   ·subst app;clear k;exact Lf P (oX bS)
   ·exact⟨q,h b q app e⟩
def aK.na(R:0e9)(h:J[i]? =5e1)(r:a∈24e3)(hs:168 a h')(m:∀q,4e4=G q->ix q=false)
  (oX:f8 J J s.M h'->RO x.w J h' p o') (k:I):241 (F.cN i o') k/\32e2:=
 R.Sj (s':=(84 h' k)) h r (λb q n e=>(hs.2 b n).aV e) m oX H H
universe e
section
variable{γ δ:Type}{x:Fx}{J:aW}{s:ae}{EE:af->ae->Prop}{F:MS}{d:I}
def sk{f:ez->MS->Internal.R γ}{br:200 γ δ}{Q:38e2}(P:11 ((gv n t F).aF f)):n<=16777216/\11 (f () F):=by
 unfold gv at P;cases t with
 |true=>exact⟨52e9,P.nR.2⟩
 |false=>
  cases h:I.g6 n 16777216 with
  |true=>dsimp only at P;rw[h]at P;exact⟨I.cz h,P.oW⟩
  |false=>dsimp only at P;rw[h]at P;exact P.ak
def tZ{h:ai}{a:aI}{aP:16e5}(s:h.gY a aP):∀q,14e4=G q->ix q=false:=by
 intro q e;(show gF s λo x b n hd=>?_;try clear s);rw[x]at e;cases e;exact r8 λvs q=>by rw[hd]at q;cases q
variable{Q:af->ae->Prop}
def Lv(R:0e9)(h:J[i]? =5e1)(n:22e0 =G (.az l t))(r:15e7)
  (P:10 ((gv (l.U+1) t F).aF λj F=> 277 (.az (l++[v]) t))):102 (409 [7e2,u]):=by
 show oA (sk P) λhs P=>?_;show gq (42 i n h) λq o aP e a=>?_;have w:=iy a;show aeG e (λh' b m=>?_) (364 aP.U);have apA:=339 (.az (l++[v]) t) h m (tZ e.iI) ⟨q,by simpa using hs,aP++[u],by simpa using b,.lX (hN k a) (.aQ (dP k r) .aR)⟩ s.a1;exact 267 14e9
def aeH(R:0e9)(h:J[i]? =5e1)(w:22e0 =G (.au l))(r:15e7)
  (P:10 ((gv (l.U+1) true F).aF λj F=> 277 (.au (v::l)))):102 (409 [7e2,u]):=by
 show oA (sk P) λhs P=>?_;show gq (42 i w h) λq o aP e a=>?_;have b:=iy a;rw[D.lA]at b;show aeG e (λh' m n=>?_) (364 aP.U);have apA:=339 (.au (v::l)) h n (tZ e.iI) ⟨q,by simpa using hs,aP++[u],by simpa using m,by rw[D.Bo];exact .lX (hN k a) (266 (dP k r))⟩ s.a1;exact 267 14e9
universe e
universe e
section
open PySem PySem.W PyProof.Rows PySem.Calls PySem.Spec PySem.SeqAt PySem.MeetsSeq
open AutoSeq1 (wpAny_loadPart')
set_option backward.match.sparseCases false
def aeI(l:aI)(aP:16e5)(n:I)(dd:ar aI)(sl:bP 12e4)(app:af)(e:aP[aP.an-1]? =G app)(x:aP.an<=P6):
  Meets (Builtin.«list.pop» (61 [.N l]))
   (λv R s=>s.M.ao l=G {bj:= 19e6,bw:=dd,bf:= .cH aP n,nC:=sl}/\333 app {s with M:=s.M.eN l (aA.py λxs=>xs.BX (aP.an-1))}):=
 .of_wp λbc w A R s h=>by
  obtain(⟨q,g,d,tk,os⟩):=s;show oA h λa h=>?_;have r:0<aP.an:=by
   rcases I.eq_zero_or_pos aP.an with h0|h0
   ·simp[h0]at e
   ·exact h0
  have m:¬aP.jN=true:=by
   intro b;have:aP.an=0:=by simpa using b
   exact I.vc r bb
  have k:RS (-1) aP.an=G (aP.an-1):=by
   rw[PySem.seqIndex_neg aq (by clear m e x;lia)];exact bC G (RR _ 0)
  wp_walk using wpAny_loadPart' a;simp only[k,e,ar.yi,ar.td];have p:(aP.BX (aP.an-1)).an<=P6+1:=I.dV (size_erased aP _) (I.aeJ x);wp_walk using(AH a H (hz:=x) (_hz':=p)),wpAny_loadPart' a;exact⟨_,H,h⟩
section
variable{γ δ:Type}{x:Fx}{J:aW}{s:ae}{EE:af->ae->Prop}{F:MS}{d:I}
def Sk:∀{l:0e0} {us:2e5},83 (l++[v])->∃s u,us=s++[u]/\cx J h l s/\22e1:=by
 intro l;induction l with
 |aR=>intro us r;cases r with|aQ r x=>cases x;exact⟨[],_,H,.aR,r⟩
 |aQ w l p=>
  intro us r;cases r with
  |aQ r x=>
  show jB (p x) λs u e a b=>?_;exact⟨_::s,u,bC _ e,.aQ r a,b⟩
def aeK(us:2e5)(u:af):(bP.mk (us++[u])).BX ((189 (us++[u]))-1)=bP.mk us:=by
 have h1:(189 (us++[u]))-1=us.U:=by refine(us++[u]).U-1=_;simp
 rw[h1];have h2:us.U<(189 (us++[u])):=by refine us.U<(us++[u]).U;simp
 apply bP.jy;simp[bP.BX,h2,D.eraseIdx_append_of_length_le]
variable{Q:af->ae->Prop}
def Sl(p:s.M.ka a ⟨us++[u]⟩)(m:us.U+1<=16777216)(h:∀h',h'.ka a 29e3->168 a h'->158 u):
  102 (261 "list.pop" [2e2]):=by
 (show oE p λn b=>?_;try clear p);have k:(bP.mk (us++[u]))[(189 (us++[u]))-1]? =G u:=by
  have h1:(189 (us++[u]))-1=us.U:=by refine(us++[u]).U-1=_;simp
  rw[h1];simp
 have e:∃r,aA.py (λxs=>xs.BX ((189 (us++[u]))-1)) (328 ⟨us++[u]⟩ n)=(328 29e3 r):=by
  unfold aA.py;dsimp only;rw[aeK];exact 25e1
 show oE e λr e=>?_;show R9 PySem.apu.aeL (51 b) PySem.apu.entry_list_pop (PySem.apu.args_list_pop_1 _) (aeI a _ n L #[] u k (by rw[f3];refine(us++[u]).U<=_;simpa using m)) ⟨b,h _ ⟨r,?_⟩ (ai.fA.eN ..)⟩;rw[258 b (by rw[e];rfl),e]
def aeM(R:0e9)(e:J[i]? =5e1)(l:22e0 =G (.au (v::r)))(P:10 (163 v i (.au r))):
  102 (261 "list.pop" [7e2]):=by
 show gq (42 i l e) λq b aP a h=>?_;rw[D.Bo]at h;(show jB (Sk h) λus u o m rv=>?_;subst o);clear h;have n:=iy m;simp only[D.lA]at n;simp only[D.m7]at b;show Sl a bN λh' w j=>?_;have apA:=339 (.au r) e j (tZ a.iI) ⟨q,by exact I.aeN b,us,w,hN k m⟩ s.a1;have k:=R.eI apA.2;rw[D.dZ]at k;exact 267 (dP k rv)
def aeO(R:0e9)(h:J[i]? =5e1)(w:22e0 =G (.az l t))(e:l.et=v::r)(P:10 (163 v i (.az r.et t))):
  102 (261 "list.pop" [7e2]):=by
 show gq (42 i w h) λq m aP a b=>?_;clear w;have el:l=r.et++[v]:=by rw[<-D.Sm l,e,D.Bo]
 clear e;subst el;(show jB (Sk b) λus u d n rv=>?_;subst d);clear b;have j:=iy n;simp only[D.lA]at j;simp only[D.hP,D.lA,D.RY]at m;show Sl a bN λh' o c=>?_;have apA:=339 (.az r.et t) h c (tZ a.iI) ⟨q,by rw[D.lA];exact I.aeN m,us,o,hN k n⟩ s.a1;have k:=R.eI apA.2;rw[D.dZ]at k;exact 267 (dP k rv)
universe e
universe e
section
open PySem PySem.W PyProof.Rows PySem.Calls PySem.Spec PySem.SeqAt
set_option backward.match.sparseCases false
abbrev bd(x:Fx):iB:=bh pw x.w
def JX(d:I)(h:cD)(E:PySem.a0)(F:MS)(r:3e2):Prop:=
 ∀(x:Fx) (J:aW) (s:ae) (Q:0e5) (EE:0e5),3e6->x.ab.bt=h->0e9->10 r->
  26 27e8
def JT(d:I)(h:cD)(E:PySem.a0)(F:MS)(r:R al):Prop:=
 ∀(x:Fx) (J:aW) (s:ae) (Q:28e9) (EE:0e5),3e6->x.ab.bt=h->0e9->64 r RB->
  26 (sV E x.ab 27e8)
section
variable{x:Fx}{A:dg}{s:ae}{EE:af->ae->Prop}
def Lw{E:0e5}{Q:0e5}(h:29 m):29 (yj vs m):=by
 unfold yj;exact 91 (eX h (λr s1 h1=>eQ (vJ (bH h1))) 54e1)
universe e
section
variable{d:I}{sc:cD}{F:MS}
inductive KC:PySem.jb->V->Prop
 |L:KC .L (.aa .L)
 |bp (b t):KC (.bp b) (.bp b t)
 |y (i t):KC (.y i) (.y i t)
 |ag (s):KC (.ag s) (.ag s)
 |ch (l:D be):l.U<=16777216->KC (.iS l) (.ch l)
def aeP(h:KC c v):43 (.r0 c k aU) 21e8:=by
 intro x J s Q EE Y b R P;show 23 (aeQ ..);cases h with
 |L=>exact 274 14e9
 |bp=>exact 274 (.bp ..)
 |y=>exact λe e e e e=>50e1
 |ag=>exact λe e e e e=>P.jU R _ (.ag ..)
 |ch l a=>exact λe e e e e=>P.jU R _ (.ch _ _ a)
def hy(id:am)(k:I):al:=id==5e5&&!(id==("__debug__" :am))&&!(id==55e9)
def t5{id:am}{k:I}(h:hy id k=true):id=5e5/\(id==("__debug__" :am))=false/\(id==55e9)=false:=by
 unfold hy at h;simp only[al.lg,al.w8]at h;exact⟨jx h.1.1,h.1.2,h.2⟩
def ew(s:cD)(id:am)(k:hD):al:=match s.bq.bY id with
 |G h=>275 h k
 |L=>false
set_option tactic.hygienic true in
theorem l3{s:cD}{id:am}{k:hD}(h:ew s id k=true){x:Fx}(a:x.ab.bt=s):39e1=G k:=by
 unfold ew at h;unfold eA.dB;rw[a];split at h
 ·rename_i b e;rw[e,fq h]
 ·cases h
def mI(l:0e1)(n w:I)(F:MS):3e2:=gN (lk l n) w λv=> 21e8
def Lx{Q:0e5}{EE:0e5}(P:10 (mI l n w F)):
  ∃v,lk l n=2e4/\188 v:=eE P λv e P=>⟨v,e,P⟩
def Sn{id:am}{k:I}(a:hy id k=true)(h2:147 sc id=true):43 (174 aU) (mI F.T k 1000 F):=by
 intro x J s Q EE Y h R P;show aN (Lx P) λv e P=>?_;show hV (t5 a) λe1 e2 e3=>?_;exact aM.of (qR (ad9 Y R e1 (l3 h2 h) e P) e2)
def So{id:am}{k w:I}(a:hy id k=true)(h2:(ew sc id .dm||ew sc id .eH)=true):43 (174 aU) (mI F.T k w F):=by
 intro x J s Q EE Y h R P;show aN (Lx P) λv e P=>?_;show hV (t5 a) λe1 e2 e3=>?_;rcases al.tR.mp h2 with h2|h2
 ·exact aM.of (qR (aea Y R e1 (l3 h2 h) e P) e2)
 ·exact aM.of (qR (aeb Y R e1 (l3 h2 h) e e3 P) e2)
def yk{id:am}{k:I}(a:hy id k=true)(h2:ew sc id .lB=true):43 (174 aU) (mI gl k 112 F):=by
 intro x J s Q EE Y h R P;show aN (Lx P) λv e P=>?_;show hV (t5 a) λe1 e2 e3=>?_;exact aM.of (qR (ad8 Y R e1 (l3 h2 h) e P) e2)
def aeR{A B:PySem.a0}{op:rJ}{aU:dA}{fz:al}{e:3e2}{rb:MS->3e2}(p:43 A e)(v:∀aS,JX d sc B aS (rb aS)):
  43 (.Bg A op B aU) (e.aF λa F=>(rb F).aF λb F=>Ke fz op a b F):=by
 intro x J s Q EE Y h R P;show 23 (arm_eval_BinOp ..);show iL (p x J s _ EE Y h R (P.aF λa aS j s1 u1 r i r1 m k=>?_));show iL (dh (v aS x _ s1 _ EE Y h r (m.aF λb du m2 u u2 q n r2 w k=>?_)));exact 44 (Lw (aM.of (aez q (r.rv n r1) r2 w)))
def aeS(s:3e2):3e2:=s.aF λv F=>gN (lr F.O v) 115 λp=> 7 (.bp (!p.1) p.2)
def aeT{A:PySem.a0}{aU:dA}{r:3e2}(p:43 A r):43 (.rZ .Not A aU) (aeS r):=by
 intro x J s Q EE Y m R P;show 23 (aeU ..);show iL (p x J s _ EE Y m R (P.aF λa aS u s1 u1 n v r1 h w=>?_));exact eE h λq e h=>44 (349 (PyProof.Rows.not_of (BO (Q:=λb s=>257 (!b) s) e r1 λk=>h.jU n k (.bp ..))))
def aeV(s:3e2):3e2:=s.aF λv F=>gI v 116 λi t=> 7 (.y (-i) t)
def aeW{A:PySem.a0}{aU:dA}{e:3e2}(b:43 A e):43 (.rZ .USub A aU) (aeV e):=by
 intro x J s Q EE Y r R P;show 23 (aeU ..);show aZ (b x J s _ EE Y r R (P.aF λa aS m s1 u1 p k r1 h=>?_));exact m8 r1 h λi t tk h=>44 (349 (PyProof.Rows.neg_int (h.jU p _ (.y ..))))
def aeX{apq A B:PySem.a0}{aU:dA}{b:R al}{r rb:MS->3e2}(m:JT d sc apq F b)(k:∀aS,JX d sc A aS (r aS))(n:∀aS,JX d sc B aS (rb aS)):
  43 (.vw apq A B aU) (b.aF λc F=>cC c (r F) (rb F)):=by
 intro x J s Q EE Y h R P;show 23 (arm_eval_IfExp ..);show aZ (m x J s _ EE Y h R 56e4);cases r1;cases a
 ·exact n aS x _ s1 _ EE Y h p e
 ·exact k aS x _ s1 _ EE Y h p e
def aeY{A:PySem.a0}{aU:dA}{h:R al}(e:JT d sc A F h):JT d sc (.rZ .Not A aU) F (h.aF λb F=> 7 (!b)):=by
 intro x J s Q EE Y p R P;show 23 (arm_isTrue_UnaryOp ..);show aZ (e x J s _ EE Y p R (P.aF λa aS n s1 u1 k m r1 r=>?_));cases r1;exact bH (r.fL k H)
def aeZ{apq A B:PySem.a0}{aU:dA}{b:R al}{r rb:MS->R al}(m:JT d sc apq F b)(k:∀aS,JT d sc A aS (r aS))(n:∀aS,JT d sc B aS (rb aS)):
  JT d sc (.vw apq A B aU) F (b.aF λc F=>cC c (r F) (rb F)):=by
 intro x J s Q EE Y h R P;show 23 (arm_isTrue_IfExp ..);show aZ (m x J s _ EE Y h R 56e4);cases r1;cases a
 ·exact n aS x _ s1 _ EE Y h p e
 ·exact k aS x _ s1 _ EE Y h p e
def BY(s:3e2)(w:I):R al:=s.aF λv F=>gN (lr F.O v) w λp=>pC p.1 p.2 F
def Sq{β:Type}{C:38e4}{l:2e1}{d:β}{f:al->2e1->β}(hd:C d)(s:∀app o,C (f app o)):C (Ql l d f):=yg hd λq o=>by
 cases q with
 |b app=>exact s app o
 |_=>exact hd
def Sr{x:Fx}{J:aW}{s:ae}{b t:al}{Q:28e9}{EE:0e5}(R:0e9)(P:64 (pC b t F) RB)(k:I):Q b 24e6:=by
 revert P;cases t with
 |false=>exact λP=>P.jU R k H
 |true=>exact Sq (C:=λr=>64 r RB->_) (λP=>P.jU R k H) λapp o' P=>P.2 [] 24e6 b (by rw[D.dZ];exact(R.bG o').a1 k) (Kp.b8 ..) (oV P.1).bi
def ae0{A:PySem.a0}{r:3e2}{w:I}(p:43 A r)(h:∀ab,sV A ab (78 A)=(do let v<-78 A;ky A.aU;gr [v] (PySem.lr v))):JT d sc A F (BY r w):=by
 intro x J s Q EE Y m R P;rw[h];show iL (p x J s _ EE Y m R (P.aF λa aS j s1 u1 n u r1 b i=>?_));exact eE b λq e b=>44 (349 (BO e r1 λk=>Sr n b k))
universe e
def ae1{α:Type}(r:3e3)(o p:D Ob):(r.cj p).cj o=r.cj (o++p):=by
 cases r with
 |aT a F q=>exact bC (R.aT a F) (D.eP ..).bi
 |a8 i F q=>exact bC (R.a8 i F) (D.eP ..).bi
 |no=>rfl
def t6{α β:Type}(r:3e3)(o:D Ob)(f:α->MS->R β):(r.cj o).aF f=(34e5).cj o:=by
 cases r with
 |aT a F p=>refine(f a F).cj (o++p)=((f a F).cj p).cj o;rw[ae1]
 |a8=>rfl
 |no=>rfl
def yl{α β γ:Type}(r:3e3)(f:α->MS->R β)(g:β->MS->R γ):(34e5).aF g=r.aF λa F=>(f a F).aF g:=by
 cases r with
 |aT a F o=>exact t6 ..
 |a8=>rfl
 |no=>rfl
def BZ{α β γ δ:Type}{x:Fx}{J:aW}{s:ae}{r:3e3}{f:α->MS->R β}{g:β->MS->R γ}{br:200 γ δ}{Q:38e2}{EE:0e5}
  (P:11 ((34e5).aF g)):11 (r.aF λa F=>(f a F).aF g):=by
 rwa[yl]at P
def PX(ih:Ih)(d:I)(s:cD)(E:PySem.a0)(e:apw):Prop:=∀F,JX d s E F (ck ih e F)
def PT(ih:Ih)(d:I)(s:cD)(E:PySem.a0)(e:apw):Prop:=∀F,JT d s E F (mz ih e F)
section
variable{ih:Ih}{d:I}{sc:cD}{F:MS}
def ym(op:pO):al:=match op with| .i4=>true| .Or=>false
def Ly{α β:Type}{x:Fx}{J:aW}{s:ae}{r:3e3}{br:17e8}{Q:12e2}{EE:0e5}(P:27e7)(k:I):aH x J 24e6 r br Q EE:=by
 have h:=P.qM (s1:=24e6) (Kp.b8 J x s.M);rwa[D.dZ]at h
def Lz{α β:Type}{f:al->MS->3e3}{br:17e8}{Q:12e2}{EE:0e5}(R:0e9):11 ((pC b t F).aF f)->∃bR,161 bR/\11 (f b bR):=by
 cases t with
 |false=>exact λP=>⟨F,R,P.oW⟩
 |true=>exact Sq (C:=λr:Internal.R al=>11 34e5->∃bR,161 bR/\11 (f b bR)) (λP=>⟨F,R,P.oW⟩) λapp o P=>⟨_,R.bG o,(oV P.nR.1:b=app)▸P.nR.2⟩
def ae2{aU:dA}{op:pO}:∀{p:10e4} {es:23e6},cJ (PX ih d sc) p es->∀(F:MS) (x:Fx) (J:aW) (s:ae) (Q:0e5) (EE:0e5),3e6->x.ab.bt=sc->0e9->
  10 (xE ih (ym op) es F)->26 (boolOp aU op (qS p x.ab)):=by
 intro p es apz;induction apz with
 |aR=>exact λF x J s Q EE Y r R P=>P.ak
 | @aQ l e1 _ _ h hs w=>
  intro F x J s Q EE Y r R P;cases hs with
  |aR=>exact h F x J s Q EE Y r R P
  | @aQ j e2 p es h2 hs=>
  show aZ (h F x J s _ EE Y r R (P.aF λv aS o s1 u1 u i r1 m=>?_));clear P;show 44 (91 ?_);show eE m λq e m=>aM.of (BO e r1 λk=>?_);clear e;show aN (Lz u m) λdu n a=>?_;clear m;have a:=Ly a k;obtain⟨b,t⟩:=q;cases op with
  |i4=>cases b with
   |true=>exact w du x _ _ Q EE Y r (n.a1 k) a
   |false=>exact bH (a.fL (n.a1 k) r1)
  |Or=>cases b with
   |true=>exact bH (a.fL (n.a1 k) r1)
   |false=>exact w du x _ _ Q EE Y r (n.a1 k) a
def Ss(h:cJ (PX ih d sc) Es es):43 (.pO op Es aU) (xE ih (ym op) es F):=by
 intro x J s Q EE Y e R P;show 23 (ae3 ..);exact ae2 h F x J s Q EE Y e R P
def ae4:∀{r:10e4} {es:23e6},cJ (PT ih d sc) r es->∀(F:MS) (x:Fx) (J:aW) (s:ae) (Q:28e9) (EE:0e5),3e6->x.ab.bt=sc->0e9->
  64 (pF ih (ym op) es F) RB->26 (allTrue op r x.ab):=by
 intro r es apz;induction apz with
 |aR=>
  intro F x J s Q EE Y a R P;show 23 (arm_allTrue_nil ..);exact 274 (show ym op=(op== .i4) by cases op<;>rfl)
 |aQ h hs p=>
  intro F x J s Q EE Y a R P;show 23 (arm_allTrue_cons ..);show aZ (h F x J s _ EE Y a R (P.aF λv aS m s1 u1 b k r1 e=>?_));clear P;cases r1;cases op with
  |i4=>cases v with
   |true=>exact p aS x _ _ Q EE Y a b e
   |false=>exact bH (e.fL b H)
  |Or=>cases v with
   |true=>exact bH (e.fL b H)
   |false=>exact p aS x _ _ Q EE Y a b e
def Su(h:cJ (PT ih d sc) Es es):JT d sc (.pO op Es aU) F (pF ih (ym op) es F):=by
 intro x J s Q EE Y e R P;show 23 (arm_isTrue_BoolOp ..);exact ae4 h F x J s Q EE Y e R P
inductive FC (ih:Ih) (d:I) (sc:cD):D jn->D PySem.a0->D (jn×apw)->Prop
 |ej {op E e}:ae5 op E=false->PX ih d sc E e->FC ih d sc [op] [E] [(op,e)]
 |aQ {op E e Sv E2 ops Es p ps}:PX ih d sc E e->FC ih d sc (Sv::ops) (E2::Es) (p::ps)->FC ih d sc (op::Sv::ops) (E::E2::Es) ((op,e)::p::ps)
def B3{Q:0e5}{EE:0e5}(Y:3e6)(R:0e9)
  (e:lT op a b F=G (c,t)) (ra:17 a ua) (rb:17 b ub) (h:∀k,257 c 24e6):26 (jW op ua ub):=
 aM.of (aek Y R e ra rb h)
def ae6{β:Type}{C:38e4}{l:2e1}{d:β}{f:al->2e1->β}(hd:C d)(s:∀app o,C (f app o)):C (Qm l d f):=yg hd λq o=>by
 cases q with
 |q app=>exact s app o
 |_=>exact hd
def Sw{α β:Type}{f:V->MS->3e3}{br:17e8}{Q:12e2}{EE:0e5}(R:0e9):11 ((xy op a b F).aF f)->
  ∃c t t' bR,lT op a b F=G (c,t)/\161 bR/\11 (f (.bp c t') bR):=by
 show ae6 (C:=λr:Internal.R V=>11 34e5->_) (λP=>?_) λc o P=>?_
 ·cases e:lT op a b F with
  |L=>rw[e]at P;exact P.ak
  |G p=>rw[e]at P;exact⟨p.1,p.2,p.2,F,H,R,P.oW⟩
 ·show oE 52e9 λt e=>?_;exact⟨c,t,false,_,e,R.bG o,P.nR.2⟩
def ae7{Q:0e5}{EE:0e5}(R:0e9)(P:10 (xy op a b F)):
  ∃c t t' bR,lT op a b F=G (c,t)/\161 bR/\10 (.Y (.bp c t') bR):=
 Sw (f:=λv F=> 21e8) R (by
  cases h:xy op a b F with
  |aT v F o=>rw[h]at P;refine 10 (.aT v F (o++[]));rw[D.dZ];exact P
  |a8=>rw[h]at P;exact P
  |no=>rw[h]at P;exact P)
def ae8{aU:dA}:∀{n:D jn} {m:10e4} {ps:D 40e1},FC ih d sc n m ps->∀(F:MS) (x:Fx) (J:aW) (s:ae) (a:V) (b:af) (Q:0e5) (EE:0e5),3e6->x.ab.bt=sc->0e9->17 a b->
  10 (pG ih a ps F)->26 (ae9 aU b n (yn n m (qS m x.ab))):=by
 intro n m ps apz;induction apz with
 | @ej op E e hm h=>
  intro F x J s a b Q EE Y u R o P;have S:yn [op] [E] (qS [E] x.ab)=[27e8]:=by
   refine [LA op E 27e8]=_;unfold LA;rw[hm]
  rw[S];refine 26 (do let rv<-gr [b] 27e8;ky aU;yj [b,rv] (jW op b rv));show 91 (h F x J s _ EE Y u R (P.aF λv aS apA s1 u1 w l r1 r=>?_));show Ow (ae7 w r) λc t t' bR i apq r=>?_;exact 44 (Lw (B3 Y w i (R.rv l o) r1 λk=>r.jU apq k (.bp ..)))
 | @aQ op E e app f n m p ps h hs g=>
  intro F x J s a b Q EE Y u R o P;refine 26 (do
   let rv<-gr [b] 27e8
   ky aU
   let c<-gr [b,rv] (jW op b rv)
   release [b,rv] [c]
   if<-gr [c,rv] (PySem.lr c)then ae9 aU rv (app::n) (yn (app::n) (f::m) (qS (f::m) x.ab))else b9 c)
  show iL (dh (h F x J s _ EE Y u R (P.aF λv aS apA s1 u1 w l r1 r W=>?_)));show eE r λq i r=>44 (91 (B3 Y w i (R.rv l o) r1 λk=>?_));clear i;show eQ (vJ (184 (Lb ?_)));show aN (Lz w r) λdu z j=>?_;clear r;have j:=Ly j k;obtain⟨c,t⟩:=q;cases c with
  |false=>exact bH (j.fL (z.a1 k) (.bp ..))
  |true=>exact g du x _ _ v u1 Q EE Y u (z.a1 k) r1 j
def afa{A:PySem.a0}{aU:dA}{b:D jn}{r:10e4}{a:apw}{ps:D 40e1}(p:PX ih d sc A a)(h:FC ih d sc b r ps):
  43 (.vx A b r aU) (30e1 λa F=>pG ih a ps F):=by
 intro x J s Q EE Y e R P;show 23 (arm_eval_Compare ..);exact aZ (p F x J s _ EE Y e R (P.aF λv aS w s1 u1 m n r1 k=>ae8 h aS x _ s1 v u1 Q EE Y e m r1 k))
def afb(ih:Ih)(a:V)(p:40e1)(F:MS):pG ih a [p] F=(76 p.2) λb F=>xy p.1 a b F:=H
def afc(ih:Ih)(a:V)(p q:40e1)(l:D 40e1)(F:MS):pG ih a (p::q::l) F=(76 p.2) λb F=>gN (lT p.1 a b F) 96 λr=>(pC r.1 r.2 F).aF λc F=>cC c (pG ih b (q::l) F) (7 30e8):=H
def afd:∀{n:D jn} {m:10e4} {ps:D 40e1},FC ih d sc n m ps->∀(F:MS) (x:Fx) (J:aW) (s:ae) (a:V) (r:af) (Q:28e9) (EE:0e5),3e6->x.ab.bt=sc->0e9->17 a r->
  64 (132 (pG ih a ps F).aF (gN (lr F.O v) w λp=>pC p.1 p.2 F)) RB->26 (testChain aU r n (yn n m (qS m x.ab))):=by
 intro n m ps apz;induction apz with
 | @ej op E e hm h=>
  intro F x J s a r Q EE Y i R f P;have apA:yn [op] [E] (qS [E] x.ab)=[27e8]:=by
   refine [LA op E 27e8]=_;unfold LA;rw[hm]
  rw[apA];refine 26 (do let rv<-gr [r] 27e8;ky aU;let c<-yj [r,rv] (jW op r rv);gr [c] (PySem.lr c));rw[afb]at P;show 91 (h F x J s _ EE Y i R ((BZ P).aF λv aS g s1 u1 u o r1 b=>?_));show Ow (Sw u b) λc t t' bR j W b=>?_;exact 44 (aZ (Lw (B3 Y u j (R.rv o f) r1 λk=>349 (Lb (Sr W b k)))))
 | @aQ op E e z app n m p ps h hs apq=>
  intro F x J s a r Q EE Y i R f P;refine 26 (do
   let rv<-gr [r] 27e8
   ky aU
   let c<-gr [r,rv] (jW op r rv)
   release [r,rv] [c]
   if<-gr [c,rv] (PySem.lr c)then testChain aU rv (z::n) (yn (z::n) (app::m) (qS (app::m) x.ab))else 42e2)
  rw[afc]at P;show 91 (h F x J s _ EE Y i R ((BZ P).aF λv aS g s1 u1 u o r1 b=>?_));have b:aH x (J++g) s1 (gN (lT op a v aS) 96 λq=>(pC q.1 q.2 aS).aF λc F=>132 (cC c (pG ih v (p::ps) F) (7 30e8)).aF (gN (lr F.O v) w λp=>pC p.1 p.2 F)) RB Q EE:=by
   cases h:lT op a v aS with
   |L=>rw[h]at b;exact b
   |G q=>rw[h]at b;exact BZ b
  show eE b λq j b=>44 (91 (B3 Y u j (R.rv o f) r1 λk=>?_));clear j;show eQ (vJ (184 (Lb ?_)));show aN (Lz u b) λdu S l=>?_;clear b;have l:=Ly l k;obtain⟨c,t⟩:=q;cases c with
  |false=>exact bH (l.oW.fL (S.a1 k) H)
  |true=>exact apq du x _ _ v u1 Q EE Y i (S.a1 k) r1 l
def afe{A:PySem.a0}{aU:dA}{w:I}{b:D jn}{r:10e4}{a:apw}{ps:D 40e1}(p:PX ih d sc A a)(h:FC ih d sc b r ps):
  JT d sc (.vx A b r aU) F (BY (30e1 λa F=>pG ih a ps F) w):=by
 intro x J s Q EE Y e R P;show 23 (arm_isTrue_Compare ..);unfold BY at P;exact aZ (p F x J s _ EE Y e R ((BZ P).aF λv aS q s1 u1 m n r1 k=>afd h aS x _ s1 v u1 Q EE Y e m r1 k))
universe e
def vK:PySem.a0->al
 | .Starred .. =>false
 |_=>true
def nb(h:vK E=true):jZ (E::Es) ab=(false,78 E)::jZ Es ab:=by
 cases E<;>first|rfl|cases h
def pU(n:I)(J:aW)(h:ai)(vs:0e0)(us:2e5):Prop:=83 vs/\vs.U=n
def kU(ih:Ih)(d:I)(s:cD)(E:PySem.a0)(e:apw):Prop:=vK E=true/\PX ih d s E e
section
variable{ih:Ih}{d:I}{sc:cD}{F:MS}
def vL:∀{a:10e4} {es:23e6},cJ (kU ih d sc) a es->∀(F:MS) (x:Fx) (J:aW) (s:ae) (Q:2e5->ae->Prop) (EE:0e5),3e6->x.ab.bt=sc->0e9->
  64 (ke ih es F) (pU es.U)->26 (nc (145 aU a x.ab)):=by
 intro a es apz;induction apz with
 |aR=>exact λF x J s Q EE Y b R P=>274 ⟨.aR,H⟩
 | @aQ E e a es h hs n=>
  intro F x J s Q EE Y b R P;have p:=h.1;have h:=h.2;rw[nb p];refine 26 (do
   let v<-27e8
   let eT<-39e9
   return eT++(<-gr eT (nc (145 aU a x.ab))))
  show aZ (h F x J s _ EE Y b R (P.aF λv aS j s1 u1 r i r1 m=>?_));show 358 (n aS x _ s1 _ EE Y b r (m.aF λvs du m2 u us q k r2 w=>?_));exact bH (w.fL q ⟨.aQ (r.rv k r1) r2.1,by rw[D.m7,D.m7,r2.2]⟩)
def aff{c}(h:cJ (kU ih d sc) Es es)(b:I.g6 es.U 1000=true):43 (.kj Es c aU) ((ke ih es F).aF (317 (.X vs))):=by
 intro x J s Q EE Y a R P;have n:=I.cz b;show 23 (Sx ..);show 44 (aZ (vL h F x J s _ EE Y a R (P.aF λvs aS v s1 us r m r1 e=>?_)));show oA r1 λr1 p=>?_;have k:=iy r1;show aM.of (Sy ?_ (by refine us.gG.an<=_;rw[D.LB,f3];lia));have E:=r.ext (jY (308 us.gG)) (vI _) s1.a1;exact e.bk E.1 E.2 (.X vs _ us ⟨_,10e0,H,_,H⟩ bN (hN (je (jY _)) r1))
def afg(h:cJ (kU ih d sc) Es es):43 (.D Es aU) ((ke ih es F).aF λvs F=>223 vs false):=by
 intro x J s Q EE Y a R P;rw[show 233 (.D Es aU)=(do ky aU;Sz (<-nc (145 aU Es x.ab)))from H];show 44 (aZ (vL h F x J s _ EE Y a R (P.aF λvs aS m s1 us b k r1 e=>?_)));show oA r1 λr1 p=>?_;show oA (BT b r1 e (309 us.gG) H 25e1 H s1.a1) λhz r=>?_;exact aM.of (J6 r (by refine us.gG.an<=_;rw[D.LB,f3];lia))
def afh(pV:PySem.a0)(o i:af):∃h,subscripted pV false o i=yj h (pm o i):=by
 cases pV with
 |r6 _ _ s=>cases s<;>exact 25e1
 |_=>exact 25e1
def SA{x:Fx}{s:ae}{EE:0e5}{vM pV:PySem.a0}{o i:af}{apq id:fH}{Q:0e5}(b:s.kK o apq)
  (hl:po 42e6 "__getitem__" =b9 (G (.bJ id))) (hg:97 (pm o i)):97 (PyProof.Rows.SB vM pV o i):=by
 unfold PyProof.Rows.SB;show 23e7;rw[getitemInPython_of_ne b.not_modules];show bg (iR b hl 20e3);have cR:∀h,260 (yj h (pm o i)) (λr s'=>260 (afi vM o r>>=λa=>b9 r) Q EE s') EE s:=
  λh=>wpAny_operating (hY hg (λr k p=>bg (SC (bX p))) λa a x=>x)
 show 23e7;refine 260 (subscripted pV false o i) _ _ _;show oE (afh pV o i) λh e=>?_;rw[e];exact cR h
def SD{A apy:PySem.a0}{aU:dA}{p:3e2}{br:200 α af}{ri:MS->3e3}{f:V->α->MS->3e2}(n:43 A p)
  (hi:∀aS (x:Fx) (J:aW) (s:ae) (Q:0e5) (EE:0e5),3e6->x.ab.bt=sc->161 aS->11 (ri aS)->26 (233 apy))
  (hf:∀aS (x:Fx) (J:aW) (s:ae) (Q:0e5) (EE:0e5) a i h r,3e6->161 aS->17 a h->br J s.M i r->10 (f a i aS)->
   97 (PyProof.Rows.SB A apy h r)):
  43 (.qI A apy aU) (p.aF λa F=>(ri F).aF λi F=>f a i F):=by
 intro x J s Q EE Y e R P;show 23 (arm_eval_Subscript ..);show iL (n x J s _ EE Y e R (P.aF λa aS o s1 u1 k l r1 w v=>?_));show iL (dh (hi aS x _ s1 _ EE Y e k (w.aF λb du m2 m u2 j q r2 u v=>?_)));exact 44 (aM.of (hf du x _ m Q EE a b u1 u2 Y j (k.rv q r1) r2 u))
def DK.ex(z:DK w J h o l):o.yo/\∃es ep,o.bf= .bw es ep:=by
 rcases z with⟨_,⟨es,ep,s,hd,_⟩,_⟩|⟨_,⟨es,ep,s,hd,_⟩,_⟩<;>exact⟨s,es,ep,hd⟩
def tlO(o:aps):al:=match o with
 | .bv _ _=>false
 | .cW _ _=>false
 | .a8 _ _=>false
 |_=>true
def LD(F:MS)(a:V):Prop:=match a with
 | .X _=>kx
 | .ad _ _=>kx
 | .ch _=>kx
 | .aa u=>(vh u).ir=true
 | .Z i=>∃o,18e7=0e4/\tlO o=true
 |_=>fT
def SE(R:0e9)(w:17 a ua)(h:LD F a):∃apq id,s.kK ua apq/\po 42e6 "__getitem__" =b9 (G (.bJ id)):=by
 cases w with
 |X l a aP r=>exact⟨_,_,r.mY,slot_tuple_getitem.bY⟩
 |ad l t a aP r=>exact⟨_,_,r.mY,SF.bY⟩
 |ch b tk=>exact⟨_,_,pq _ _ _,FB.aeF.bY⟩
 |aa=>
  show oE (ar.mV.mp h) λl m=>?_;(show dU (yf R (RL m) 14e9) λj v u z=>?_;subst v);clear m;rcases z with⟨_,⟨o,_,_,k,n,_⟩,_⟩|⟨_,⟨o,_,_,k,n,_⟩,_⟩<;>exact⟨_,_,⟨o,k,n.1⟩,afj.bY⟩
 |Z i p q=>
  show aN h λo e h=>?_;have z:=42 i e q;clear e;cases o with
  |az=>exact⟨_,_,z.2.2.jV.1.iI.mY,SF.bY⟩
  |au=>exact⟨_,_,z.2.2.jV.1.iI.mY,SF.bY⟩
  |bw=>exact⟨_,_,⟨_,z.2.2.jV.1,z.2.2.jV.2.ex.1.1⟩,afj.bY⟩
  |eG=>exact⟨"bytearray",_,(51 z.2.2),BA.JA.bY⟩
  |_=>exact nF h
 |_=>exact h.ak
universe e
def JB(d:I)(h:cD)(B:11e1)(F:MS)(r:2e9):Prop:=
 ∀(x:Fx) (J:aW) (s:ae) (Q:34e6) (EE:0e5),3e6->x.ab.bt=h->x.fz=false->pW 3e0 x.A x.ab EE->0e9->64 r RF->
  26 (mj B x.ab)
def JS(d:I)(h:cD)(S:cn)(F:MS)(r:2e9):Prop:=
 ∀(x:Fx) (J:aW) (s:ae) (Q:34e6) (EE:0e5),3e6->x.ab.bt=h->x.fz=false->pW 3e0 x.A x.ab EE->0e9->64 r RF->
  26 (exec S x.ab)
def JC(d:I)(f:V)(as:0e0)(F:MS)(r:3e2):Prop:=
 ∀(x:Fx) (J:aW) (s:ae) (u:af) (us:2e5) (Q:0e5) (EE:0e5),3e6->0e9->17 f u->171 as->10 r->
  26 (aX u us)
section
variable{J:aW}{h:ai}{d9:am->ar hD}
def SG:∀{ps:D I} {us:2e5} {m:am->12e4},k∉ps->LE d9 (42e3 us) m 5e5=m 5e5
 | [],_,_,_=>rfl
 |p::ps,[],_,_=>rfl
 |p::ps,u::us,m,h=>by
  have h1:k≠p:=λe=>h (by rw[e];exact D.dQ ..);have h2:k∉ps:=λe=>h (54 e);refine LE d9 (42e3 us) _ 5e5=_;rw[SG h2];split
  ·exact d6 (λe=>h1 (r7 e))
  ·rfl
def SH:∀{ps:D I} {us:2e5} {m:am->12e4},k∉ps->LF d9 (42e3 us) m 5e5=m 5e5
 | [],_,_,_=>rfl
 |p::ps,[],_,_=>rfl
 |p::ps,u::us,m,h=>by
  have h1:k≠p:=λe=>h (by rw[e];exact D.dQ ..);have h2:k∉ps:=λe=>h (54 e);refine LF d9 (42e3 us) _ 5e5=_;rw[SH h2];split
  ·rfl
  ·exact d6 (λe=>h1 (r7 e))
def SI:∀{ps:D I} {vs:0e0} {us:2e5} (m a:am->12e4),ps.dX->83 vs->∀k v,19 (ps.fx vs)=2e4->
  ∃u,22e1/\(d9 5e5=12e3->LE d9 (42e3 us) m 5e5=G u)/\(d9 5e5≠12e3->LF d9 (42e3 us) a 5e5=G u):=by
 intro ps;induction ps with
 |aR=>intro _ _ _ _ _ _ k v e;cases e
 |aQ p ps n=>
  intro vs us m a s r k v e;cases r with
  |aR=>cases e
  | @aQ i u0 vs us r w=>
  show oA (D.jf.mp s) λb s=>?_;rw[D.zip_cons_cons,nT]at e;cases q:I.bZ p k with
  |true=>
   rw[q]at e;cases e;have:=42e5;subst bb;show⟨u0,r,λx=>?_,λx=>?_⟩
   ·refine LE d9 (42e3 us) _ (nm p)=_;rw[SG b,eY x,eY H]
   ·refine LF d9 (42e3 us) _ (nm p)=_;rw[SH b,d6 x,eY H]
  |false=>
   rw[q]at e;exact n _ _ s w k v e
universe e
def vN:∀{lo:I} {cP:29e1},(bq.bY n=18e8\/(cP.bY n).ir=true)->(((t7 lo bq cP).bY n).ir=true):=by
 induction bq with
 |aR=>exact λh=>h.ak (λh=>by cases h) (λh=>by unfold t7;exact h)
 |aQ p r x=>
  obtain⟨gf,d9⟩:=p;intro lo cP h;unfold t7;split
  ·rename_i s;show x ?_;rcases h with h|h
   ·rw[D.lE]at h;cases q:(n==gf)with
    |true=>exact .aE (by rw[D.lE,q];rfl)
    |false=>rw[q]at h;exact 25e7
   ·right;rw[D.lE];split
    ·rfl
    ·exact h
  ·rename_i s;show x ?_;rcases h with h|h
   ·rw[D.lE]at h;cases q:(n==gf)with
    |true=>rw[q]at h;cases h;exact bL aq s
    |false=>rw[q]at h;exact 25e7
   ·exact .aE h
def SJ:∀{lo:I} {cP:29e1},(bq.aj (·.1)).dX->(cP.aj (·.1)).dX->(∀n,n∈bq.aj (·.1)->n∉cP.aj (·.1))->((t7 lo bq cP).aj (·.1)).dX:=by
 induction bq with
 |aR=>intro lo cP _ h _;unfold t7;exact h
 |aQ p r ih=>
  obtain⟨gf,d9⟩:=p;intro lo cP h1 h2 h3;show oA (D.jf.mp h1) λa x=>?_;unfold t7;split
  ·show ih x (D.jf.bn ⟨h3 _ (D.dQ ..),h2⟩) λn s hm=>?_;rcases D.eS.mp hm with e|e
   ·exact a (e▸s)
   ·exact h3 n (54 s) e
  ·exact ih x h2 λn s=>h3 n (54 s)
structure yp(fa:aI)(fn:Fn)(fd:jD)(B:D cn):Prop where
 Z:∀P,∃o,(fa,o)∈KL P/\o.bf= .ml fd
 dI:∀(h:ai) P,hb h (KL P)->h.zH fd.dI fd.pd
 cX:fd.cX= .mU B
 co:fd.bt.zF=false
 gen:fd.bt.zG=false
 d9:fd.bt.d9= .jL
 vA:fd.ha=iD
 SK:fd.rk=[]
 jP:fd.jE=mW
 bq:(fd.bt.bq.aj (·.1)).dX
 SM:∀app∈fd.bt.bq,app.2≠ .eH
 SN:fn.ps.dX
 pk:∀p∈fn.ps,fd.bt.bq.bY (nm p)=G .cV\/fd.bt.bq.bY (nm p)=G .dm
 cr:∀(s:ae) P,hb s.M (KL P)->∀J vs us,cx J s.M vs us->(vs++fn.jr vs.U).U=fn.ps.U->∃B4,cx J s.M (vs++fn.jr vs.U) B4/\BindsTo s fd ⟨us,[]⟩ ((fn.ps.aj nm).fx B4)
def LG(A:253 h):h.OE:=⟨h.jI rE,.vD (Jy A),by unfold ai.jI;rw[k2 A];kernel_rfl⟩
def SO{s:29e1}(x:(s.aj (·.1)).dX){n:am}{c:aI}(h:(n,c)∈s):s.bY n=G c:=by
 induction s with
 |aR=>cases h
 |aQ p r ih=>
  obtain⟨m,d⟩:=p;show oA (D.jf.mp x) λh1 h2=>?_;clear x;rw[D.lE];rcases D.eS.mp h with e|e
  ·cases e;simp
  ·have:n≠m:=λa=>h1 (a▸D.oz (f:=(·.1)) e);clear h1 h;have b:(n==m)=false:=se.bn bb;rw[b];exact ih h2 e
def em(x:Fx)(ab:eA):Fx:=⟨x.w,46e8,ab,x.os,false⟩
def B5(F:MS)(rb:2e9):3e2:=rb.aF λr bR=>gA r 130 λv=> .Y v ⟨bR.O,F.T,bR.bG⟩
def aK.sS{x:Fx}{J:aW}{F:MS}{s s1:ae}(R:0e9){apt:aI}{m apA:am->12e4}{ab:eA}{T:0e1}(hL:ab.cY=s.M.O.an)(xc:InCallC s ab.cY m ab.b3 apA s1)
  (hf:ab.ec=31e4) (hk:ab.bt.d9= .jL) (hA:39e8) (w:(ab.b3.aj (·.1)).dX)
  (jA:∀k v,19e1=2e4->∃u,15e7/\(33e4=12e3->m 5e5=G u)/\(33e4≠12e3->apA 5e5=G u))
  (app:∀n,(37e3=18e8\/37e3=23e5)->(378 n)=true):
  aK 5e4 J (220 T) s1:=by
 have P:=xc.oZ.bS;(show qh xc.oZ.fF λh1 tk apD=>?_;subst apD);have hz:s.M.O.an<h1.O.an:=by
  have:=xc.oZ.ns.lt;rw[hL]at bb;exact bb
 have E:=R.ext P (I.jz hz) tk;have p:=E.1;have W:lx<=s.M.O.an:=351 (R.hM _ 2e6) (R.m9 _ 2e6);have t:∀n c,(n,c)∈ab.b3->s.M.O.an<c:=λn c h=>hL▸xc.LH n c h;have apq:∀a,fr 5e4 a->s.M.O.an<=a:=by
  rintro a (rfl|⟨_,n,w⟩)
  ·exact 38e9
  ·exact I.jz (t n a w)
 show⟨p.d8,p.cU,p.O,p.nd,p.gz,p.up,⟨(314 xc.oZ.ns),λk v a b=>?_⟩,λa i f=>31 (R.up a f) (apq a i),λa i=>I.dV W (apq a i),⟨?_,w,λn w=>?_⟩,λg n c app=>?_,?_,?_,p.dD,p.os,p.cW⟩
 ·show dU (jA k v b) λu r e g=>?_;clear apq;exact⟨u,e a,dP (je P) r⟩
 ·show dU (jA k v b) λu r g e=>?_;clear jA;show oE (ar.mV.mp (app _ a)) λc S=>?_;have apw:33e4≠12e3:=by
   have z:33e4=18e8\/33e4=23e5:=a;rcases z with z|z<;>rw[z]<;>decide
  show⟨c,u,S,(e apw)▸xc.dm _ c S,dP (je P) r,λf=>?_⟩;have h1:=t _ c (nf S);exact 31 (R.up c f) (I.jz h1)
 ·have:=xc.apart;rw[D.dX,D.afk];exact bb
 ·have h1:=t n _ w;clear t;have h2:(5e4).ab.cY=s.M.O.an:=hL;rw[h2]at h1;exact 293 h1
 ·exact⟨_,xc.dm n c (SO w app)⟩
 ·(show oE hA λl d=>?_;try clear hA);clear app w;intro l' j e q;have:l'=ab::l:=by
   have:(5e4).A.dY=G (ab::l):=by refine 38e8=_;rw[d];rfl
   rw[bb]at j;cases j;rfl
  subst bb;rcases D.eS.mp q with H|q
  ·show uE xc.oZ.ns λo es ep e1 e2 g=>?_;clear xc;exact⟨hk,_,o,hf,e1,es,ep,e2⟩
  ·exact p.gD l d e q
 ·rintro a ⟨l',j,e,q,i⟩;(show oE hA λl d=>?_;try clear hA);have:l'=ab::l:=by
   have:(5e4).A.dY=G (ab::l):=by refine 38e8=_;rw[d];rfl
   rw[bb]at j;cases j;rfl
  clear j;subst bb;rcases D.eS.mp q with H|q
  ·rw[hf]at i;cases i;rw[hL];clear hL;exact⟨W,λf=>293 (R.up _ f)⟩
  ·exact 122 ⟨l,d,e,q,i⟩
def B6(k:39e8):FA 5e4 a ↔ (ab.ec=11e3\/FA x a):=by
 (show oE k λl p=>?_;try clear k);have e:(5e4).A.dY=G (ab::l):=by refine 38e8=_;rw[p];rfl
 constructor
 ·rintro⟨l',s,v,b,r⟩;rw[e]at s;cases s;rcases D.eS.mp b with H|b
  ·exact .a4 r
  ·exact .aE ⟨l,p,v,b,r⟩
 ·rintro(h|⟨l',s,v,b,r⟩)
  ·exact⟨_,e,ab,D.dQ ..,h⟩
  ·rw[p]at s;cases s;clear s;exact⟨_,e,v,54 b,r⟩
def aK.B7{x:Fx}{J aC:aW}{F app:MS}{s s1 s':ae}(R:0e9){ab:eA}(hL:342 ab.cY)(apD:ab.ec=31e4)(gK:∀n c,(n,c)∈ab.b3->ab.cY<c)(g:39e8)
  (ig:48e3) (pX:51e0)
  (R':aK 5e4 (J++aC) app s') (K':56 J 5e4 s1.M s'.M):207 ⟨app.O,F.T,app.bG⟩/\38e5:=by
 have i:∀a,a<s.M.O.an->¬fr 5e4 a:=by
  rintro a p (rfl|⟨_,n,V⟩)
  ·exact 31 p hL
  ·have h1:=gK n a V;exact 31 p (351 hL h1)
 have d:∀a,a<s.M.O.an->¬FA x a->¬FA 5e4 a:=by
  intro a p h q;rcases(B6 g).mp q with e|q
  ·rw[apD]at e;cases e;exact 31 p hL
  ·exact h q
 have apv:38e5:=by
  show⟨λa o e t f j A=>K'.bS a o (ig a o e) t (d a 9e1 f) (i a 9e1) A,λa o e f j=>K'.ju a o (ig a o e) ((B6 g).bn (.aE f)) (i a 9e1),λa o e t n=>K'.iW a o (ig a _ e) t n,λa o e=>K'.g7 a o (ig a o e),λa p=>?_⟩;cases B:s.M.ao a with
  |L=>rfl
  |G o=>exact 225 (K'.fm a p) (ig a o B)
 have bS:=R.eI apv;have P:∀a o,¬14e2->4e4=0e4->¬69 (J++aC):=λa o h1 h2 h3=>(jv.mp h3).ak h1 λh=>nN ((324 h) h2);have ec:∀a o,FA x a->4e4=0e4->∃o',s'.M.ao a=G o'/\o'.bf=o.bf:=by
  intro a o f e;show dU (K'.ju a o (ig a o e) ((B6 g).bn (.aE f)) (i a 9e1)) λo' e1 j e2=>?_;exact⟨o',e1,e2⟩
 have dm:∀c u,s.M.pS c u->¬cy J c->s'.M.pS c u:=by
  rintro c u ⟨o,e,hd⟩ no;show⟨o,K'.bS c o (ig c o e) (Bs hd) (d c 9e1 54e9) (i c 9e1) no,hd⟩
 show⟨⟨R'.d8,R'.cU,R'.O,R'.nd,R'.gz,R'.up,⟨?_,λk v a b=>?_⟩,λa p=>(R.vG a p).ak λo e=>P a o (R.bI a p) e,R.hM,R.b3,λz n c apq=>?_,λl apA e S=>?_,λa p=>⟨(122 p).1,(R.vH a p).ak λo e=>P a o (122 p).2 e⟩,R'.dD,R'.os,R'.cW⟩,apv⟩
 ·obtain(⟨m,⟨o,es,ep,e,hd,hs⟩,hm⟩):=R.bq.iP;have:∃o',s'.M.ao x.ab.cY=G o'/\o'.bf=o.bf:=by
   by_cases q:FA x x.ab.cY
   ·exact ec _ _ q e
   ·exact⟨o,K'.bS _ o (ig _ o e) (tL hd) (d _ 9e1 q) (i _ 9e1) (R.bI _ 2e6),H⟩
  (show aN bb λo' apw apE=>?_;try clear bb);show(314 ⟨o',es,ep,apw,apE.aV hd,hs⟩);show aN (hm k v a b) λu e1 r=>?_;exact⟨u,e1,30e3⟩
 ·obtain(⟨c,u,e1,e2,r,no⟩):=201 k v b;show aN (id e2) λo e3 j=>?_;exact⟨c,u,e1,dm c _ e2 no,30e3,P c _ no e3⟩
 ·show oE (R.hw z n c apq) λw W=>?_;exact⟨w,dm c w W (R.bI c (247 z n apq))⟩
 ·exact(R.gD l apA e S).eI λa o e1 e2=>ec a o ⟨l,apA,e,S,e1⟩ e2
structure qT(apu:aI->Prop)(h h':ai):Prop where
 an:h'.O.an=h.O.an
 fF:∀a,¬apu a->h'.ao a=h.ao a
 bf:∀a o,h.ao a=G o->∃o',h'.ao a=G o'/\o'.bj=o.bj/\o'.bf=o.bf
def qT.b8(apu:154 aI)(h:ai):qT apu h h:=⟨H,λs s=>rfl,λs o e=>⟨o,e,H,H⟩⟩
def qT.aV{apu:154 aI}(a:qT apu h h1)(b:qT apu h1 h2):qT apu h h2:=
 ⟨b.an.aV a.an,λc s=>(b.fF c s).aV (a.fF c s),λc o e=>by
  show dU (a.bf c o e) λo1 e1 c1 d1=>?_
  show dU (b.bf c o1 e1) λo2 e2 c2 x=>?_
  exact⟨o2,e2,c2.aV c1,x.aV d1⟩⟩
section
variable{apB:iB}{A:dg}{E:af->ae->Prop}
def afl{apu:154 aI}(l:D eA):∀(s:ae) (Q:17e3),(∀e∈l,r9 s.M e)->(∀e∈l,∀a,e.ec=11e3->apu a)->(∀h',qT apu s.M h'->158 ())->
  68 (LI l):=by
 induction l with
 |aR=>intro s Q _ _ h;unfold LI;exact bX (h _ (.b8 ..))
 |aQ e l j=>
  intro s Q p w h;obtain(⟨P,apt,o,e1,e2,es,n,e3⟩):=p e (D.dQ ..);unfold LI;rw[e1];show bg (rm e2 ?_);by_cases hr:((o.nC.ge 3 L).ir)=true
  ·rw[eY hr];exact bX (h _ (.b8 ..))
  ·rw[d6 hr];show bg (gu (a:=false) (by simp[behindIsImport,P]) ?_);have cR:∀v,68 (do
     eN apt λo=>{o with nC:= #[G e.dI,47 e.ha,o.nC.ge 2 L,2e4,o.nC.ge 4 L,e.ml.aj af.N,47 e.jE]++(e.b3.aj λc=>47 c.2).gG}
     LI l):=by
    intro v;have app:∀(g:aA->aA),(∀o,(g o).bj=o.bj/\(g o).bf=o.bf)->qT apu s.M (s.M.eN apt g):=by
     intro g i;have b:168 apt (s.M.eN apt g):=ai.fA.eN ..;show⟨b.1,λa f=>b.2 a (λz=>f (z▸w e (D.dQ ..) apt e1)),λa o' x=>?_⟩;by_cases q:a=apt
     ·subst q;rw[e2]at x;cases x;show⟨g o,258 e2 ?_,(i o).1,(i o).2⟩;have hd:=(i o).2;generalize g o=go at hd;obtain(⟨c1,c2,c3,c4⟩):=go;rw[e3]at hd;cases hd;rfl
     ·exact⟨o',(b.2 a q).aV x,H,H⟩
    show bg (abR e2 ?_);have u:=app (λo=>{o with nC:= #[G e.dI,47 e.ha,o.nC.ge 2 L,2e4,o.nC.ge 4 L,e.ml.aj af.N,47 e.jE]++(e.b3.aj λc=>47 c.2).gG}) λo=>15e2;show j _ Q (λm k=>(p m (54 k)).eI λa o t x=>?_) (λm k=>w m (54 k)) λh' d=>h h' (u.aV d);clear j w p;show dU (u.bf a o x) λo' f1 t f2=>?_;exact⟨o',f1,f2⟩
   cases l with
   |aR=>exact bg (wpAny_keptBack_nil λv=>cR v)
   |aQ c r=>exact bg (gu H (cR _))
def afm{Q:0e5}(k:A.dY=G (ab::l))(b:ab.ec=G apt)(Y:∀e∈ab::l,r9 s.M e)
  (h:∀h',qT (λa=>∃e∈ab::l,e.ec=11e3) s.M h'->158 (.N apt)):68 (PySem.SP ab):=by
 unfold PySem.SP;show bg (wpAny_frameEnvs k ?_);have hd:((ab::l).dropWhile λx=>x.ec !=ab.ec)=ab::l:=by simp[D.dropWhile]
 rw[hd];unfold frameObject;show 169 (afl (apu:=λa=>∃e∈ab::l,e.ec=11e3) _ s _ Y (λe r a p=>⟨e,r,p⟩) λh' u=>20e3);rw[b];exact bX (h h' u)
structure ExcAt(h:ai)(e:aI)(o:aA)(vs:bP af)(aD:D aI):Prop where
 jG:h.ao e=G o
 bf:o.bf= .cp vs
 an:vs.an=6
 tb:(aD=[]/\vs[1]? =G .L)\/∃tb ot pT,aD=[tb]/\vs[1]? =G (.N tb)/\h.ao tb=G ot/\ot.bj= .aB "traceback" /\ot.bf= .cp pT/\4<pT.an
def SQ{Q:17e3}(app:A.dY=G (ab::l))(g:ab.ec=G apt)(Y:∀v∈ab::l,r9 s.M v)
  (he:36e9=0e4) (hd:o.bf= 27e1) (hs:vs.an=6) (qU:¬∃v∈ab::l,v.ec=G e)
  (h:∀h' tb k,(∀a,a<s.M.O.an->a≠e->¬(∃v∈ab::l,v.ec=11e3)->18e4=4e4)->(∀a o,4e4=0e4->(∃v∈ab::l,v.ec=11e3)->∃o',18e4=G o'/\o'.bj=o.bj/\o'.bf=o.bf)->
   s.M.O.an<=tb->tb<h'.O.an->h'.O.an=s.M.O.an+1->42e7=G {o with bf:= .cp k}->k.an=6->k[1]? =47 tb->(∃m w,h'.ao tb=G m/\m.bj= 53e8 /\m.bf= .cp w/\4<w.an)->158 ()):
  68 (do SR (9e6) 1 (<-EntryCells.newEntry rq (<-PySem.SP ab) .L (iE apt) .L (<-entryPlaceOf apt b))):=by
 show bg (afm app g Y λh1 u=>bg (wpAny_entryPlaceOf λr d=>?_));unfold EntryCells.newEntry newFields;show bg (qt ?_ (d.sizeOk5 _ _ _ _ _));have p:h1.ao e=0e4:=(u.fF e qU).aV he;clear he;have t:e<h1.O.an:=ai.cQ p;show u6 (117 p) hd bN ?_;have j:h1.O.an=s.M.O.an:=u.an;obtain(⟨c,di,dt,sl⟩):=o;simp only at hd;subst hd;have i:=ai.kC (aA.t8 (·.pY 1 (af.N h1.O.an))) (ai.er {bj:= 53e8,bw:=L,bf:= .cp ([rq,af.N apt,.L,iE apt,.L]++(if r.jN then D.gj 6 af.L else r)).gG} p) cI;clear p;show h _ h1.O.an (vs.pY 1 (.N h1.O.an)) (λa S f x=>?_) (λa n P x=>?_) (I.h8 j.bi) ?_ ?_ i (by simpa using hs) (by simp[hs]) ?_
 ·rw[ai.t9 _ _ _ _ f];clear i h;cases q:s.M.ao a with
  |G n=>exact 117 ((u.fF a x).aV q)
  |L=>
   exact(ai.get?_push_ne _ _ _ bN).aV ((u.fF a x).aV q)
 ·show dU (u.bf a n P) λo' f1 f2 R=>?_;show⟨o',?_,f2,R⟩;rw[ai.t9 _ _ _ _ (λz=>qU (by subst z;exact x))];clear qU;exact 117 f1
 ·refine _<(ai.eN _ _ _).O.an;rw[(ai.fA.eN ..).1,ai.iO];exact 40e5
 ·refine(ai.eN _ _ _).O.an=_;rw[(ai.fA.eN ..).1,ai.iO];exact bC (· +1) j
 ·show⟨{bj:= 53e8,bw:=L,bf:= .cp ([rq,af.N apt,.L,iE apt,.L]++(if r.jN then D.gj 6 af.L else r)).gG},_,?_,H,H,?_⟩
  ·rw[ai.t9 _ _ _ _ (λz=>I.lP _ (z▸t))];exact 10e0
  ·simp only[D.LB,D.hP,D.m7,D.sn];split<;>simp;lia
universe e
structure so(apu:aI->Prop)(e:aI)(o:aA)(aD:D aI)(h h':ai)(tb:aI)(yq:bP af):Prop where
 fF:∀a o,h.ao a=G o->a≠e->a∉aD->¬apu a->h'.ao a=G o
 bf:∀a o,h.ao a=G o->apu a->∃o',h'.ao a=G o'/\o'.bj=o.bj/\o'.bf=o.bf
 an:h.O.an<=h'.O.an
 jG:h'.ao e=G {o with bf:= .cp yq}
 six:yq.an=6
 N:yq[1]? =G (.N tb)
 tbo:∃ot pT,h'.ao tb=G ot/\ot.bj= .aB "traceback" /\ot.bf= .cp pT/\4<pT.an
 jp:tb∈aD\/h.O.an<=tb
section
variable{apB:iB}{A:dg}{E:af->ae->Prop}
def afn{Q:17e3}(apD:A.dY=G (ab::l))(apA:ab.ec=G apt)(Y:∀v∈ab::l,r9 s.M v)
  (apw:ExcAt s.M e o vs aD) (hc:o.bj= 2e8)
  (h:∀h' tb u,so (λa=>∃v∈ab::l,v.ec=11e3) e o aD s.M h' tb u->158 ()):
  68 (mT 9e6 ab):=by
 obtain(⟨k,hd,hs,B8⟩):=apw;have apu:∀a r vs,4e4=G r->r.bf= 27e1->¬∃v∈ab::l,v.ec=11e3:=by
  intro a r vs b apy apE;(show aN apE λv app apz=>?_;try clear apE);obtain(⟨_,L',o',f1,f2,es,n,V⟩):=Y v app;rw[apz]at f1;cases f1;rw[b]at f2;cases f2;rw[apy]at V;cases V
 have apq:=apu e o vs k hd;unfold mT;simp only[apA];obtain(⟨H,h1⟩|⟨tb,B,t,H,h1,w,R,d,g⟩):=B8
 ·show cL (hH k hd h1 λp=>?_);show sR aq λp p=>?_;show SQ apD apA Y k hd hs apq λh' tb u k1 k2 i apF j e1 e2 e3 e4=>h h' tb u ⟨λa r b S p q=>(k1 a (ai.cQ b) S q).aV b,k2,by exact I.le.nr (id (Eq.bi j)),e1,e2,e3,e4,.aE i⟩
 ·have apx:tb≠e:=λz=>by
   subst z;rw[k]at w;cases w;rw[hc]at R;cases R
  clear hc;have P:=apu tb B t w d;show cL (hH k hd h1 λp=>?_);show pc (show(af.N tb !=af.L)=true from by exact al.afo.mp (xL H)) <|?_;show oE (⟨t[3],bP.ie (by exact I.LJ g)⟩:∃x,t[3]? =G x) λapv aps=>?_;show cL (hH w d aps λp=>?_);by_cases W:(apv==iE apt)=true
  ·show pc W <|?_;show bX (h s.M tb vs ⟨λa r b p p p=>b,λa r b p=>⟨r,b,H,H⟩,11e7,?_,hs,h1,⟨B,t,w,R,d,g⟩,.a4 28e4⟩);clear h1;rw[k];obtain(⟨c,di,dt,sl⟩):=o;simp only at hd;subst hd;rfl
  ·show k8 W <|?_;show cL (u6 w d (by exact I.LJ g) λp=>?_);clear w;have m:168 tb (374 (·.pY 3 .L)):=ai.fA.eN ..;have apr:=(m.2 e (Ne.bi apx)).aV k;clear k;show SQ apD apA (λv app=>(Y v app).eI λa r f b=>⟨r,(m.2 a (λz=>P ⟨v,app,z▸f⟩)).aV b,H⟩) apr hd hs apq λh' t2 u k1 k2 i apF j e1 e2 e3 e4=>h h' t2 u ⟨λa r b S hr q=>?_,λa r b q=>?_,?_,e1,e2,e3,e4,.aE ?_⟩
   ·have apC:a≠tb:=λz=>hr (D.cZ.bn z);clear apq apr h;have e5:=(m.2 a apC).aV b;exact(k1 a (ai.cQ e5) S q).aV e5
   ·exact k2 a r ((m.2 a (λz=>P (by subst z;exact q))).aV b) q
   ·have:=m.1;clear k2 k1 P;have z3':h'.O.an=(374 (·.pY 3 .L)).O.an+1:=j;clear j;lia
   ·have z1':(374 (·.pY 3 .L)).O.an<=t2:=i;clear i;have:=m.1;clear m;exact yr (id (Eq.bi bb)) z1'
def afp{e:aI}{fr:ar aI}{tb:aI}{aD:11e9}{apu:154 aI}{C:aI}{Q:17e3}(apC:so apu e o aD h0 s.M tb yq)(l:o.bj= 2e8)
  (htF:¬apu tb) (h:∀h',so apu e o aD h0 h' tb yq->158 ()):68 (sp 9e6 fr):=by
 obtain(⟨k1,k2,z,e1,e2,e3,⟨d,app,k,w,v,u⟩,b⟩):=apC;have i:tb≠e:=λq=>by
  subst q;rw[e1]at k;cases k;have:o.bj= 53e8 :=w;rw[l]at bb;cases bb
 unfold sp;show cL (hH e1 H e3 λt=>?_);show pc (show(af.N tb !=af.L)=true from by exact al.afo.mp (xL H)) <|?_;show u6 k v (by exact I.LJ u) ?_;generalize(fr.ak af.L λf=>iE f)=x;have r:168 tb (374 (·.pY 3 x)):=ai.fA.eN ..;show h _ ⟨λa n m j hr p=>?_,λa n m p=>?_,?_,(r.2 e (Ne.bi i)).aV e1,e2,e3,?_,b⟩
 ·have:=k1 a n m j hr p;clear k1 e3 h;show(r.2 a λq=>?_).aV bb;subst q;rcases b with b|b
  ·exact hr b
  ·exact 31 (ai.cQ m) b
 ·show aN (k2 a n m p) λo' f1 f2=>?_;exact⟨o',(r.2 a λq=>htF (q▸p)).aV f1,f2⟩
 ·have:=r.1;exact le_of_le_of_eq z (id (Eq.bi bb))
 ·obtain(⟨c,di,dt,sl⟩):=d;clear r;simp only at v;subst v;exact⟨_,_,258 k H,w,H,by simpa using u⟩
universe e
def aK.note{x:Fx}{J:aW}{F:MS}{s:ae}{h':ai}(R:0e9)(jA:F.T=[]){i:I}{p:9e3}{C:aI}{d:0e1}(apq:J[i]? =5e1)(apz:22e0 =G (.a8 C d)){o:aA}{aD:11e9}{tb g:aI}{aps:16e5}
  (hp:p.2=g::aD) (LK:s.M.ao p.1=0e4) (apC:so (FA x) p.1 o aD s.M h' tb aps):
  aK x (J.cN i (p.1,[g,tb])) F 35e9:=by
 obtain(⟨k1,k2,z,e1,e2,e3,B8,W⟩):=apC;have d3:∀a,69 (J.cN i (p.1,[g,tb]))->14e2\/s.M.O.an<=a:=by
  intro a zr1;(show aN zr1 λq P r=>?_;try clear zr1);rcases D.B9 P with P|rfl
  ·exact .a4 ⟨q,P,r⟩
  ·have hm:p∈J:=D.jc apq;show tP r ?_ ?_ ?_
   ·exact .a4 ⟨p,hm,D.dQ ..⟩
   ·exact .a4 ⟨p,hm,by unfold dT;rw[hp];simp⟩
   ·rcases W with W|W
    ·exact .a4 ⟨p,hm,by unfold dT;rw[hp];simp[W]⟩
    ·exact .aE W
 have Q:∀a,a=p.1\/a∈aD->14e2:=λa r=>⟨p,D.jc apq,by unfold dT;rw[hp];rcases r with H|r<;>simp[*]⟩;have A:∀a o,4e4=0e4->¬14e2->¬FA x a->18e4=0e4:=λa S u no ap7=>k1 a S u (λq=>no (Q a (.a4 q))) (λq=>no (Q a (.aE q))) ap7;have tk:jt s.M h':=by
  obtain(⟨_,dx0,rest0,_,_,vs0,sl0,SU,g10,_,_,_,g50⟩):=42 i apz apq;rw[hp]at SU;(show oA (D.aQ.cF SU) λapt apB=>?_;subst apt;subst apB);show λa S u t=>k1 a S u (λq=>?_) (λq=>?_) (R.lz u (Rk t))
  ·rw[q,g10]at u;cases u;cases t
  ·rcases g50 with⟨e,_⟩|⟨tb0,ot0,tvs0,e,_,h3,h4,h5,_⟩<;>rw[e]at q
   ·exact nomatch q
   ·rw[52e7,h3]at u;cases u;unfold ix at t;rw[h4,h5]at t;exact bL t (show¬(("traceback" == "code")=true)from aq)
 have bS:f8 J (J.cN i (p.1,[g,tb])) s.M h':=by
  have nO:∀a S,4e4=G S->¬14e2->¬69 (J.cN i (p.1,[g,tb])):=λa S u no q=>(d3 a q).ak no λq=>31 (ai.cQ u) q;show⟨λa aP e=>?_,λa aP e no=>?_,λa b n e no=>⟨A a _ e no (R.lz e λapA apA q=>by cases q),nO a _ e no⟩,λj q e=>?_,λapA apA=>jt.dI tk⟩
  ·(show gF e λS u apD n hd=>?_;try clear e);show⟨S,?_,apD,n,hd⟩;by_cases hO:14e2
   ·exact bL apD (R.By hO u _ _ hd)
   ·exact A a S u hO 56e2
  ·(show gF e λS u apD n hd=>?_;try clear e);exact⟨⟨S,A a S u no 56e2,apD,n,hd⟩,nO a _ u no⟩
  ·by_cases apw:i=j
   ·rw[<-apw,apq]at e;cases e;rw[<-apw];show⟨(p.1,[g,tb]),?_,H⟩;rw[D.LL (118 apq)]
   ·exact⟨q,by rw[D.afq apw];exact e,H⟩
 obtain(⟨hdl,dx',rest',es,n,vs,sl,SV,g1,g2,g3,g4,_⟩):=42 i apz apq;rw[hp]at SV;(show oA (D.aQ.cF SV) λapt apB=>?_;subst apt;subst apB);rw[LK]at g1;cases g1;clear g1;have SW:g≠p.1:=λq=>by rw[q]at g2;rw[LK]at g2;cases g2
 clear LK;have ndp:(24e3).dX:=by
  have:=R.nd;rw[D.dX,D.yh]at bb;exact bb.1 p (D.jc apq)
 have dxr:g∉aD:=by
  have h2:(p.1::g::aD).dX:=by have h3:=ndp;unfold dT at h3;rw[hp]at h3;exact h3
  exact(D.jf.mp (D.jf.mp h2).2).1
 have dxF:¬FA x g:=λq=>(R.fy g q).2 ⟨p,D.jc apq,by unfold dT;rw[hp];simp⟩;have e4:h'.ao g=G (hK es n):=k1 g _ g2 SW dxr dxF;clear g2;(show jC B8 λot pT t1 t2 t3 t4=>?_;try clear B8);have tne:tb≠p.1:=λq=>by
  rw[q]at t1;rw[e1]at t1;cases t1;cases t2
 have tnd:tb≠g:=λq=>by
  rw[q]at t1;rw[e4]at t1;cases t1;cases t3
 have up:∀a,69 (J.cN i (p.1,[g,tb]))->a<h'.O.an:=by
  intro a r;rcases d3 a r with h|h
  ·exact I.mH (R.up a h) z
  ·show aN r λq P r=>?_;rcases D.B9 P with P|rfl
   ·exact I.mH (R.up a ⟨q,P,r⟩) z
   ·exact tP r (ai.cQ e1) (ai.cQ e4) (ai.cQ t1)
 have ys:lx<=s.M.O.an:=351 (R.hM _ 2e6) (R.m9 _ 2e6);have apF:∀a,¬14e2->a<s.M.O.an->¬69 (J.cN i (p.1,[g,tb])):=λa h1 h2 q=>(d3 a q).ak h1 λq=>31 h2 q;have afr:∀j q,J[j]? =G q->j≠i->tb∉dT q:=by
  intro j q apE apr r;rcases W with W|W
  ·exact apr (R.si apE apq r (by unfold dT;rw[hp];simp[W]))
  ·exact 31 (R.up tb ⟨q,D.jc apE,r⟩) W
 have E:∀a,a=p.1\/a=g\/a∈aD->a∈24e3:=λa h=>by unfold dT;rw[hp];rcases h with H|rfl|h<;>simp[*]
 clear hp;have SX:∀j q a,J[j]? =G q->j≠i->a∈dT (p.1,[g,tb])->a∉dT q:=by
  intro j q a apE apr r;exact tP r (λP=>apr (R.si apE apq P (E _ 2e6))) (λP=>apr (R.si apE apq P (E _ 15e6))) (afr j q apE apr)
 show⟨λq P=>?_,by rw[D.vO];exact R.cU,λj ap8 q f1 f2=>?_,?_,λa r=>(d3 a r).ak (R.gz a) (I.dV ys),up,⟨?_,λk v apA b=>?_⟩,λa r=>apF a (R.bI a r) (R.m9 a r),R.hM,R.b3,λz n c apD=>?_,λl hl v hv=>(R.gD l hl v hv).eI λa S f u=>?_,λa r=>⟨(122 r).1,apF a (122 r).2 (R.tW a r)⟩,R.dD,R.os,tk.Y R.cW⟩
 ·have h1:=I.sj.mp (D.iw.mp (BW x.w.bV) q P);clear apF up d3;exact A _ _ (R.d8 q P) (λq=>31 h1 (R.gz _ q)) (λq=>31 h1 (R.fy _ q).1)
 ·by_cases apw:j=i
  ·rw[apw,apz]at f1;cases f1;rw[apw,D.LL (118 apq)]at f2;cases f2;exact⟨hdl,g,[tb],es,n,aps,sl,H,e1,e4,xZ bS g3,e2,.aE ⟨tb,ot,pT,H,e3,t1,t2,t3,t4⟩⟩
  ·rw[D.afq (Ne.bi apw)]at f2;clear e4 e1 t2 t1 t3;show sf bS (λa r S u=>k1 a S u (λz=>apw (R.si f2 apq r (E a (.a4 z)))) (λz=>apw (R.si f2 apq r (E a (79 z)))) (λz=>(122 z).2 ⟨q,D.jc f2,r⟩)) (R.O j ap8 q f1 f2)
 ·have nd:=R.nd;clear bS;rw[D.dX,D.yh]at nd⊢;show⟨λq P=>?_,?_⟩
  ·rcases D.B9 P with P|rfl
   ·exact nd.1 q P
   ·refine(dT (p.1,[g,tb])).dX;clear P;unfold dT;simp only[D.jf,D.eS,D.mq,mr,Qa,afs,D.kS,tf];exact⟨⟨Ne.bi SW,Ne.bi tne⟩,Ne.bi tnd⟩
  ·have pw:=nd.2;rw[D.Si]at pw⊢;intro a b r apy apu;rw[D.vO]at r apy;rw[D.getElem_set,D.getElem_set];split
   ·rename_i h1;subst h1;rw[d6 (by exact I.iq apu)];intro app apx w apv e;subst e;exact SX b _ app (D.ie apy) (by exact Ne.bi (I.iq apu)) apx apv
   ·split
    ·rename_i h1 h2;subst h2;intro app apx w apv e;subst e;exact SX a _ app (D.ie r) (by exact I.iq apu) apv apx
    ·exact pw a b r apy apu
 ·obtain(⟨m,⟨oL,es',ep,f1,hd,hs⟩,_⟩):=R.bq.iP;have:∃o',h'.ao x.ab.cY=G o'/\o'.bf=oL.bf:=by
   by_cases q:FA x x.ab.cY
   ·show dU (k2 _ _ f1 q) λo' f2 apA B=>?_;exact⟨o',f2,B⟩
   ·exact⟨oL,A _ _ f1 (R.bI _ 2e6) q,H⟩
  (show aN bb λo' f2 B=>?_;try clear bb);exact⟨m,⟨o',es',ep,f2,B.aV hd,hs⟩,λk v apA b=>by rw[jA]at b;cases b⟩
 ·rw[jA]at b;cases b
 ·show gd (R.hw z n c apD) λw oc f1 f2=>?_;exact⟨w,oc,A c oc f1 (R.bI c (247 z n apD)) (R.lz f1 λapA apA q=>by rw[f2]at q;cases q),f2⟩
 ·show dU (k2 a S u ⟨l,hl,v,hv,f⟩) λo' f2 apA B=>?_;clear u;exact⟨o',f2,B⟩
def aft(p:x.A.dY=G l):FA x=λa=>∃v∈l,v.ec=11e3:=by
 funext a;apply qV;constructor
 ·intro s;obtain(⟨l',h,e,r,b⟩):=s;rw[p]at h;cases h;exact⟨e,r,b⟩
 ·exact(by intro s;(show aN s λe r b=>?_;try clear s);exact⟨l,p,e,r,b⟩)
def excAt{x:Fx}{J:aW}{F:MS}{s:ae}(R:0e9){i:I}{C:aI}{d:0e1}(b:22e0 =G (.a8 C d)):
  ∃p o vs e aD,J[i]? =5e1/\p.2=e::aD/\o.bj= 2e8/\ExcAt s.M p.1 o vs aD/\s.M.ao p.1=0e4:=by
 have a:i<J.U:=by rw[R.cU];exact(118 b)
 obtain(⟨l,e,aD,es,n,vs,sl,j,g1,g2,g3,v,r⟩):=R.O i _ J[i] b (D.ie a);show⟨J[i],_,vs,e,aD,D.ie a,j,H,⟨g1,H,v,?_⟩,g1⟩;rcases r with h|⟨tb,u,m,h1,h2,h3,q,k,w⟩
 ·exact 25e7
 ·exact .aE ⟨tb,u,m,h1,h2,h3,q,k,w⟩
def SY{J aC:aW}{i:I}(h:J.U<=i)(q:9e3):(J++aC).cN i q=J++aC.cN (i-J.U) q:=by
 rw[D.afu _ _ h]
def afv{x:Fx}{J aC:aW}{F:MS}{s:ae}{h0 h':ai}(R:294 F s){i:I}{p:9e3}{l tb:aI}{aD:11e9}{o:aA}{d:16e5}(apv:56 J x h0 s.M)(c:J.U<=i)(j:(J++aC)[i]? =5e1)(w:p.2=l::aD)
  (apC:so (FA x) p.1 o aD s.M h' tb d):Kp J (aC.cN (i-J.U) (p.1,[l,tb])) x h0 h':=by
 have hm:p∈aC:=by
  rw[D.lD c]at j;exact D.jc j
 have fm:∀a,a∈24e3->46e3=L:=λa k=>apv.fm a ⟨p,hm,k⟩;have v:∀a o,46e3=0e4->a≠p.1/\a∉aD:=λa o e=>by
  exact⟨λq=>(225 (fm a (q▸D.dQ ..)) e),λq=>(225 (fm a (by unfold dT;rw[w];simp[q])) e)⟩
 show⟨λa b e t f g app=>?_,λa b e f g=>?_,λa o e t n=>?_,λa o e=>?_,?_⟩
 ·show oA (v a b e) λn1 r=>?_;exact apC.fF a b (apv.bS a b e t f g app) n1 r f
 ·show dU (apv.ju a b e f g) λo1 e1 c1 d1=>?_;show dU (apC.bf a o1 e1 f) λo2 e2 c2 P=>?_;exact⟨o2,e2,c2.aV c1,P.aV d1⟩
 ·have e1:=apv.iW a o e t n;show oA (v a _ e) λn1 r=>?_;exact apC.fF a _ e1 n1 r (R.lz e1 (Rk t))
 ·show oA (v a o e) λn1 r=>?_;show oE (apv.g7 a o e) λo1 e1=>?_;by_cases f:FA x a
  ·show aN (apC.bf a o1 e1 f) λo2 e2 S=>?_;exact⟨o2,e2⟩
  ·exact⟨o1,apC.fF a o1 e1 n1 r f⟩
 ·intro a u;(show aN u λq m k=>?_;try clear u);rcases D.B9 m with m|rfl
  ·exact apv.fm a ⟨q,m,k⟩
  ·show tP k ?_ ?_ ?_
   ·exact fm _ (D.dQ ..)
   ·exact fm _ (by unfold dT;rw[w];simp)
   ·rcases apC.jp with h|h
    ·exact fm _ (by unfold dT;rw[w];simp[h])
    ·cases z:h0.ao _ with
     |L=>rfl
     |G o=>
      clear m;show oE (apv.g7 _ o z) λo1 e1=>?_;exact 31 (ai.cQ e1) h
def aK.nl{x:Fx}{J:aW}{F:MS}{s:ae}(R:0e9):161 (4 F.O F.bG):=by
 show⟨R.d8,R.cU,R.O,R.nd,R.gz,R.up,⟨?_,λk v e b=>by cases b⟩,R.bI,R.hM,R.b3,R.hw,R.gD,R.fy,R.dD,R.os,R.cW⟩;obtain⟨m,h,_⟩:=R.bq.iP;exact⟨m,h,λk v e b=>by cases b⟩
def SZ{x:Fx}{J aC:aW}{e:MS}{s':ae}{h0:ai}{i:I}{u:af}{l:D eA}{Q:17e3}{EE:0e5}{n:dg}(k:x.A.dY=G (x.ab::l))(c:n.dY=x.A.dY)(f:x.ab.ec=G x.ab.cY)
  (R':207 (4 e.O e.bG)) (K':56 J x h0 s'.M) (hx:x5 J e i) (ru:RV (J++aC) s'.M 15e9 u)
  (h:∀(h1:ai) (iV:aW) (p:9e3) (tb:aI) (s:16e5) (o:aA) (aD:11e9) (a C:aI),so (FA x) p.1 o aD s'.M h1 tb s->o.bj= 2e8->u= 7e2->167 J iV (4 e.O e.bG) {s' with M:=h1}->Kp J iV x h0 h1->RV (J++iV) h1 15e9 u->¬FA x tb->
   (∀h2,so (FA x) p.1 o aD s'.M h2 tb s->167 J iV (4 e.O e.bG) {s' with M:=h2}/\Kp J iV x h0 h2/\RV (J++iV) h2 15e9 u)->Q () {s' with M:=h1}):
  aY 3e0 n (mT u x.ab) Q EE s':=by
 (show sO hx λr C b=>?_;try clear hx;show oE b λd v=>?_;try clear b);(show np (excAt R' v) λp o vs b=>?_;show uF b λa aD e1 e2 m apw t=>?_;try clear b);cases ru using mG.cE with
 |Z app e3=>
  rw[e1]at e3;cases e3;have fa:=aft k;have dM:∀h2 tb s,so (FA x) p.1 o aD s'.M h2 tb s->aK x (J++aC.cN (i-J.U) (p.1,[a,tb])) (4 e.O e.bG) {s' with M:=h2}/\Kp J (aC.cN (i-J.U) (p.1,[a,tb])) x h0 h2/\RV (J++aC.cN (i-J.U) (p.1,[a,tb])) h2 15e9 7e2:=by
   intro h2 tb s apC;have w:=R'.note H e1 v e2 t apC;rw[SY r]at w;show⟨w,afv R' K' r e1 e2 apC,?_⟩;have:(J++aC.cN (i-J.U) (p.1,[a,tb]))[i]? =G (p.1,[a,tb]):=by
    rw[<-SY r,D.LL (118 e1)]
   exact .Z i (p.1,[a,tb]) bb
  show afn (c.aV k) f (R'.gD _ k) apw m λh1 tb s apC=>?_;rw[<-fa]at apC;have z:=dM h1 tb s apC;show h h1 _ p tb s o aD a C apC m H z.1 z.2.1 z.2.2 (λq=>?_) λh2 j=>dM h2 tb s j;exact(z.1.fy tb q).2 ⟨(p.1,[a,tb]),D.uP _ (D.mem_iff_getElem?.bn ⟨i-J.U,by
   rw[D.LL]
   rw[D.lD r]at e1
   exact(118 e1)⟩),by simp[dT]⟩
def afw{x:Fx}{J aC:aW}{F b:MS}{s s1 s':ae}(R:0e9){ab:eA}(hL:ab.cY=s.M.O.an)(v:ab.ec=31e4)(gK:∀n c,(n,c)∈ab.b3->ab.cY<c)(k:39e8)
  (ig:48e3) (pX:51e0) {i:I} {u:af} {EE ap9:0e5}
  (R':aK 5e4 (J++aC) (4 b.O b.bG) s') (K':56 J 5e4 s1.M s'.M) (hx:x5 J b i) (ru:RV (J++aC) s'.M 15e9 u)
  (h:∀r e,167 J r (4 b.O b.bG) e->71 r e.M->RV (J++r) e.M 15e9 u->EE u e):
  aY 3e0 46e8 (rj ab u) (λS e=>EE u e) ap9 s':=by
 (show oE k λl m=>?_;try clear k);have t:(5e4).A.dY=G (ab::l):=by refine 38e8=_;rw[m];rfl
 unfold rj;show bg (SZ (x:=5e4) t H v R' K' hx ru λh1 iV p tb g o aD apA C apC d f apq P r1 q dM=>?_);clear ru r1;subst f;show afp (s:={s' with M:=h1}) apC d q λh2 j=>?_;show hV (dM h2 j) λapp w r2=>?_;have z:=R.B7 38e9 v gK ⟨l,m⟩ ig pX app w;exact h iV _ z.1.nl z.2 r2
set_option backward.match.sparseCases true
def aH.LN{x:Fx}{J:aW}{F:MS}{s s1:ae}{rb:2e9}{ab:eA}{Q:0e5}{EE:0e5}
  (R:0e9) (hL:ab.cY=s.M.O.an) (hf:ab.ec=31e4) (gK:∀n c,(n,c)∈ab.b3->ab.cY<c) (hA:39e8)
  (ig:48e3) (pX:51e0) (P:10 (B5 F rb)):
  aH 5e4 J s1 rb RF (λf s'=>Q 55e2 s') (λe s'=>aY 3e0 46e8 (rj ab e) (λz h=>EE e h) (λapp h=>EE app h) s'):=by
 have d:∀{aC:aW} {bR:MS} {s':ae},aK 5e4 (J++aC) bR s'->56 J 5e4 s1.M s'.M->207 ⟨bR.O,F.T,bR.bG⟩/\38e5:=λb p=>R.B7 38e9 hf gK hA ig pX b p;unfold B5 at P;cases rb with
 |aT a bR ob=>
  show⟨(26e9).1,λaC s' u b p w=>?_⟩;have j:=26e3;show oA (d b p) λm k=>?_;cases w with
  |next=>exact j.2 aC s' .L m k 14e9
  |bk r=>exact j.2 aC s' _ m k r
 |a8 i bR ob=>
  exact⟨P.1,λaC s' u q b p w=>afw R hL hf gK hA ig pX b p q w λt h m k r2=>P.2 t h u q m k r2⟩
 |no=>exact P.ak
def LO{d d0:I}{fa:aI}{fn:Fn}{fd:jD}{B:11e1}{as:0e0}{F:MS}{x:Fx}{J:aW}{s:ae}{us:2e5}{Q:0e5}{EE:0e5}(apv:yp fa fn fd B)(apD:(as++39e0).U=fn.ps.U)
  (Y:x.Ok d0) (Ca:x.A.g9+1+2*d+2<DG) (Cb:x.A.jd+3+20*d+20<cLine) (R:0e9) (rs:171 as)
  (h:∀(ab:eA) (s1:ae),ab.cY=s.M.O.an->ab.ec=31e4->ab.bt=fd.bt->(∀n c,(n,c)∈ab.b3->ab.cY<c)->(∃l,x.A.dY=G l)->(∀a o,4e4=0e4->s1.M.ao a=0e4)->s.M.O.an<=s1.M.O.an->(5e4).Ok d->
   aK 5e4 J ⟨F.O,fn.ps.fx (as++39e0),F.bG⟩ s1->(ab.dI=fd.dI/\ab.px=fd.pd++ ".<locals>.")->
   346 (mj B ab) (λf s'=>Q 55e2 s') (λe s'=>aY 3e0 46e8 (rj ab e) (λj i=>EE e i) (λC i=>EE C i) s') s1):
  26 (aX (.N fa) us):=by
 show aN (apv.Z x.w.bV) λo hm hd=>?_;show aN (apv.cr s x.w.bV R.d8 J as us rs apD) λA S apw=>?_;show aN Y.dY λl t apz=>?_;have apx:=iy S;have apr:∀app∈(fn.ps.aj nm).fx A,app.1∈fn.ps.aj nm:=λapp w=>(D.of_mem_zip w).1;show rh (OD (cX:=B) bN (R.d8 _ hm) hd apv.co apv.gen apv.cX (apv.dI _ _ R.d8) (apw _ _ _ _ ?_));rw[apv.SK];show afx apv.d9 (λapp w=>?_) λab b s1 xc=>?_
 ·show aN (D.sr.mp (apr app w)) λp z e=>?_;rw[<-e];rcases apv.pk p z with h|h
  ·exact 25e7
  ·exact .aE ⟨h,vN 25e7⟩
 have hL:ab.cY=s.M.O.an:=bC (·.cY) b;have g:ab.ec=31e4:=(bC (·.ec) b).aV (bC (G ·.cY) b).bi;have r:ab.bt=fd.bt:=bC (·.bt) b;have u:ab.b3=t7 (181 1) fd.bt.bq []:=bC (·.b3) b;have apE:ab.ha=iD:=(bC (·.ha) b).aV apv.vA;have apu:ab.jE=mW:=(bC (·.jE) b).aV apv.jP;have gK:∀n c,(n,c)∈ab.b3->ab.cY<c:=λn c h=>xc.LH n c h;have apq:=xc.oZ.bS;have E:s.M.O.an<=s1.M.O.an:=by
  have:=xc.oZ.ns.lt;rw[hL]at bb;exact I.jz bb
 have m:∀n,37e3=fd.bt.bq.bY n:=λn=>by unfold eA.dB;rw[r]
 have P:∀n,37e3≠23e5:=λn h=>by
  rw[m]at h;exact apv.SM _ (nf h) H
 show⟨LG (λp z=>apq _ _ (R.d8 p z)),OB ?_⟩;have apA:=R.sS (apt:=0) (T:=fn.ps.fx (as++39e0)) hL xc g (by rw[r];exact apv.d9) ⟨l,t⟩ (by rw[u];exact SJ apv.bq D.kS λj j h=>nomatch h)
  (λk v e=>SI _ _ apv.SN S k v e) (λn h=>by
   rcases h with h|h
   ·rw[u];rw[m]at h;exact vN 25e7
   ·exact bL h (P n))
 have W:(5e4).Ok d:=by
  show⟨by refine ab.bt.d9=_;rw[r];exact apv.d9,apE,apu,λn h=>?_,by refine x.A.g9+1+_+_<_;exact I.LP Ca,by refine x.A.jd+3+_+_<_;exact I.LP Cb,Y.e9,Y.j7,⟨ab::l,by refine 38e8=_;rw[t];rfl,λj=>⟨l,H,g⟩⟩,λq=>nF q⟩;rcases h with h|h
  ·refine(378 n)=true;have h':37e3=18e8:=h;rw[u];rw[m]at h';exact vN (.a4 h')
  ·exact bL h (P n)
 exact h ab s1 hL g r gK ⟨l,t⟩ apq E W apA ⟨bC (·.dI) b,bC (·.px) b⟩
def afy{d:I}{fa:aI}{fn:Fn}{fd:jD}{B:11e1}{as:0e0}{F:MS}{rb:2e9}(apv:yp fa fn fd B)(b:(as++39e0).U=fn.ps.U)
  (aqa:JB d fd.bt B ⟨F.O,fn.ps.fx (as++39e0),F.bG⟩ rb):JC (d+1) (5 fa) as F (B5 F rb):=by
 intro x J s u us Q EE Y R m k P;cases m;have j:=Y.g9;have l:=Y.jd;show LO (d:=d) apv b Y bN bN R k λab s1 hL n r gK p q v a w i=>?_;exact eX (aqa 5e4 J s1 _ _ a r H pW.rj w (aH.LN R hL n gK p q v P)) (λf s' h=>h) (λe s' h=>h)
universe e
section
open PySem PySem.W PyProof.Rows PySem.Calls PySem.Spec PySem.SeqAt
open Builtin hiding id
set_option backward.match.sparseCases false
def Ta{α:Type}{l:34e7}{n:I}{c:α}:l.bY n=G c->(n,c)∈l:=by
 induction l with
 |aR=>intro h;cases h
 |aQ p r x=>
  obtain⟨k,v⟩:=p;intro h;rw[D.lE]at h;cases s:n==k with
  |true=>rw[s]at h;cases h;rw[AB.mp s];exact D.dQ
  |false=>rw[s]at h;exact 54 (x h)
def st{h:ai}{P:ay}(A:253 h):dR.In 8e0 h:=λa o e=>A _ (Ta e)
section
variable{bc:gT}{w:eB}{A:dg}{E:af->ae->Prop}{s:ae}
def Tb{Q Q₁:0e5}(hd:∃oc n cd sl,s.M.ao C=G ⟨oc,n,.bj cd,sl⟩)
  (LQ:e7 6e2 s.M (Cc 2e8 "__call__") (G 55e5)) (LR:e7 6e2 s.M (su 2e8 46e6) true)
  (LT:e7 6e2 s.M (Ay 2e8) qu) (qU:qu.jN=false) (LV:e7 6e2 s.M (Bind.madeBy 2e8) (G newId))
  (JM:uY 6e2 48e4 (.aX (.bJ newId) ⟨2e8::us,[]⟩) (uZ Q₁ E) s)
  (JN:∀Z x,Q₁ Z x->273 w 48e4 (su Z 2e8) (λb s'=>b=true/\s'=x) E x/\
   273 w 48e4 (Cc Z "__init__") (λr s'=>r=47 jK/\s'=x) E x/\
   273 w 48e4 (bindSpecial (.N jK) Z) (λr s'=>r=(.N jK,[Z])/\s'=x) E x/\
   134 48e4 (aX (.N jK) (Z::us)) (λr s'=>r= .L/\Q Z s') E x):
  134 A (aX 2e8 us) Q E s:=by
 (show np hd λoc n cd v=>?_;try clear hd;show oE v λsl q=>?_;try clear v);show rh (mh H ?_);refine aM _ _ (sU 2e8 _) _ _ _;show aM.of ?_;show nd_load q ?_;refine aY _ _ (sU.viaDunder 2e8 _) _ _ _;unfold sU.viaDunder;show cL (LQ.eT λh=>?_);dsimp only;rw[tc_bind];show bg (292 20e3);show bX (a:=PySem.kB.mi (.aX 55e5 ⟨2e8::us,[]⟩)) (i4.nr H ?_);show mh H ?_;refine aM _ _ (do w7 "type.__call__" ⟨2e8::us,[]⟩;mi (384 us)) _ _ _;show eQ (Tc tc_kind tc_split LR (tc_args _ _ _) (bH (i4.nr (fS.Pz _ 9e8) ?_)));show JK entry_typeCall 9e8 ?_;unfold Builtin.«type.__call__»;show mg (by exact al.lM) λh h=>?_;show ff (LT.eT λh=>?_);show uH (by rw[qU];decide) <|?_;show ff (LV.eT λh=>?_);show 29e0;show 184 (JO (abX JM λr x hr=>?_));cases r with
 |dJ e=>exact hr
 |Y fl=>
  cases fl with
  |bk Z=>
   show lJ (JN _ _ hr) λh1 h2 h3 i=>?_;show 148 h1 (λb s' e=>?_) 54e3;clear h1;(show oA e λp k=>?_;try clear e;subst p;subst k);show uH aq <|?_;show 91 ?_;unfold Ax;show 148 h2 (λr m e=>?_) 54e3;clear h2;(show oA e λp k=>?_;try clear e;subst p;subst k);show dh (148 h3 (λr m e=>?_) 54e3);clear h3;(show oA e λp k=>?_;try clear e;subst p;subst k);show aZ (eX i (λr m e=>?_) 54e3);(show oA e λp u=>?_;try clear e;subst p);exact bH (bH u)
  |_=>exact hr.ak
universe e
def Fx.wA(x:Fx)(A:dg):Fx:=⟨x.w,A,x.ab,x.os,x.fz⟩
def LX{x:Fx}{A:dg}(h:A.dY=x.A.dY):FA (x.wA A)=FA x:=by
 funext a;unfold FA Fx.wA;rw[h]
def aK.wA{x:Fx}{A:dg}(h:A.dY=x.A.dY){J:aW}{F:MS}{s:ae}:aK (x.wA A) J F s ↔ 0e9:=by
 have r:=LX h;constructor
 ·intro R;exact⟨R.d8,R.cU,R.O,R.nd,R.gz,R.up,⟨R.bq.iP,R.bq.eV⟩,R.bI,R.hM,R.b3,R.hw,λl b=>R.gD l (h.aV b),λa e=>122 (r▸e),R.dD,R.os,R.cW⟩
 ·intro R;exact⟨R.d8,R.cU,R.O,R.nd,R.gz,R.up,⟨R.bq.iP,R.bq.eV⟩,R.bI,R.hM,R.b3,R.hw,λl b=>R.gD l (h.bi.aV b),λa e=>122 (r▸e),R.dD,R.os,R.cW⟩
def Kp.wA{x:Fx}{A:dg}(h:A.dY=x.A.dY){J aC:aW}{r h2:ai}:56 J (x.wA A) r h2 ↔ 56 J x r h2:=by
 have s:=LX h;constructor
 ·intro apv;exact⟨λa o e t f g b=>apv.bS a o e t (by rw[s];exact f) g b,λa o e f g=>apv.ju a o e (by rw[s];exact f) g,apv.iW,apv.g7,apv.fm⟩
 ·intro apv;exact⟨λa o e t f g b=>apv.bS a o e t (by rw[<-s];exact f) g b,λa o e f g=>apv.ju a o e (by rw[<-s];exact f) g,apv.iW,apv.g7,apv.fm⟩
def aH.wA{α β:Type}{x:Fx}{A:dg}(h:A.dY=x.A.dY){J:aW}{s:ae}{r:3e3}{br:17e8}{Q:12e2}{EE:0e5}(P:27e7):aH (x.wA A) J s r br Q EE:=by
 cases r with
 |aT a F ob=>exact⟨P.1,λaC s' u R apv r=>P.2 aC s' u ((aK.wA h).mp R) ((Kp.wA h).mp apv) r⟩
 |a8 i F ob=>exact⟨P.1,λaC s' u e R apv r=>P.2 aC s' u e ((aK.wA h).mp R) ((Kp.wA h).mp apv) r⟩
 |no=>exact P.ak
structure Td(C jK:aI):Prop where
 Z:∀P,∃oc od cd sl,(C,(⟨oc,od,.bj cd,sl⟩:aA))∈KL P
 makes:∀P,Cd (KL P) C=true
 LY:∀P,iJ (KL P) (.N C) "__init__" =G (G (.N jK))
 fn:∀P,yt (KL P) (.N jK)=G (.aB "function")
def afz(C:aI)(k:aps)(F:MS)(f:V->MS->3e2):3e2:=(F.jp k).aF λo F=>(f o F).aF λa F=>gB (ty a) 151 (7 o)
def nV{A:dg}{C:aI}{us:2e5}:48e4={A with g9:=A.g9+1,jd:=A.jd+1}:=by
 obtain(⟨a,b,c,d,e⟩):=A;refine(⟨a,b+(fS.bJ "type.__call__" ⟨.N C::us,[]⟩).weight,pushEnvs (fS.bJ "type.__call__" ⟨.N C::us,[]⟩).envs c,pushGuards (fS.bJ "type.__call__" ⟨.N C::us,[]⟩).j7 d,e+(fS.bJ "type.__call__" ⟨.N C::us,[]⟩).cUnits⟩:dg)=_;have e1:(fS.bJ "type.__call__" ⟨2e8::us,[]⟩).weight=1:=H;have e2:(fS.bJ "type.__call__" ⟨2e8::us,[]⟩).cUnits=1:=H;have e3:(fS.bJ "type.__call__" ⟨2e8::us,[]⟩).envs=[]:=H;have e4:(fS.bJ "type.__call__" ⟨2e8::us,[]⟩).j7=[]:=by
  unfold fS.j7;exact d6 (show¬(Pu.hW "type.__call__")=true by decide+ci)
 rw[e1,e2,e3,e4,pushEnvs_eq,pushGuards_eq];cases c<;>cases d<;>rfl
def Te{d:I}{C jK:aI}{as:0e0}{F:MS}{f:V->MS->3e2}(apv:Td C jK)(A:∀o aS,JC d (5 jK) (o::as) aS (f o aS)):
  JC (d+1) (5 C) as F (afz C (113 []) F f):=by
 intro x J s u us Q EE Y R apA apq P;cases apA;have apw:=st R.d8;have apD:=makes_of (apB:=3e0) apw (apv.makes x.w.bV);obtain⟨cd,v⟩:∃cd,e7 (bd x) s.M (Ay (.N C)) cd/\cd.jN=false:=by
  obtain(⟨⟨oc,apE,cd,sl,h,e1,e2,e4⟩,_⟩):=apD;exact⟨cd.qu,((e7.ld (vi:=L) h).iY .o3).iY .o3,e4⟩
 have w:=Ce (apB:=3e0) apw (apv.LY x.w.bV);have c:=apD;obtain(⟨⟨oc,apE,aps,sl,h,_⟩,made,Cf,oF,j0,aX,typ⟩):=c;have m:(x.A.hG (384 us)).dY=x.A.dY:=by rw[nV]
 show Tb (Q₁:=λZ i=>Z= 24e0/\i={s with M:=35e1 28e6}) ⟨_,_,_,_,h⟩ aX typ v.1 v.2 made ?_ ?_ (jK:=jK)
 ·exact new_K apD w 2e6 15e2
 ·rintro Z i ⟨H,H⟩;have k:∀b o,8e8=0e4->(35e1 28e6).ao b=0e4:=λb o e=>300 e;have n:(35e1 28e6).ao (181 1)=G 28e6:=by
   have:=ai.fG (s.M.b6 nW) (o:=28e6) H;rwa[ai.iO]at bb
  have apr:(35e1 28e6).ao s.M.O.an=G nW:=117 10e0;have t1:173 (35e1 28e6) (pZ 24e0) 2e8:=(e7.ld n).iY .o3;have apz:dR.In 36e4 (35e1 28e6):=apw.eI k;have nI:173 (35e1 28e6) (su 24e0 2e8) true:=t1.iY (f:=λt=>lN t 2e8) (oF.eI k);show⟨nI.eT 15e2,(show 173 (35e1 28e6) (Cc 24e0 "__init__") (47 jK)from t1.iY (f:=λt=>po t "__init__") (w.eI k)).eT 15e2,(bind_fn apz _ (apv.fn x.w.bV)).eT 15e2,?_⟩;have apC:=R.Lg (p:=(s.M.O.an+1,39e7)) (o:= 113 []) (h':=35e1 28e6) k (by rw[ai.iO,ai.iO];lia)
   (λa S=>by rw[ai.iO,ai.iO];exact Bx S ⟨37e8,40e5⟩ ⟨11e7,I.yu 40e5 40e5⟩) (by simp[dT]) R.m9
   ⟨by simp,s.M.O.an,[],0,#[],H,n,apr,.aR⟩ s.a1
  have j:=P.oW.qM (s1:={s with M:=35e1 28e6}) apC.2;have q:RV (J++[(s.M.O.an+1,39e7)]) (35e1 28e6) (.Z F.O.U) 24e0:=
   .Z _ (s.M.O.an+1,39e7) (by rw[<-R.cU,28e3,I.jl];rfl)
  have g:(380 us).Ok d:=by
   obtain(⟨o1,o2,E,o4,apF,apt,o7,apx,app,W⟩):=Y;show⟨o1,o2,E,o4,?_,?_,?_,?_,?_,W⟩
   ·refine(31e0).g9+_+_<_;rw[nV];refine x.A.g9+1+_+_<_;lia
   ·refine(31e0).jd+_+_<_;rw[nV];refine x.A.jd+1+_+_<_;lia
   ·refine(31e0).e9=_;rw[nV];exact o7
   ·refine(31e0).j7=_;rw[nV];exact apx
   ·refine∃l,(31e0).dY=_/\_;rw[m];exact app
  show A (.Z F.O.U) _ (x.wA _) _ _ _ _ _ EE g ((aK.wA m).bn apC.1) 14e9 (.aQ q (R.Rp apC.2 apq)) (aH.wA m (j.aF λa du m2 apy u2 z B r2 r=>?_));show fV r λapu r=>?_;exact⟨jx ((BL r2).aV apu),r.fL z (apC.1.rv B q)⟩
structure vP(C:aI):Prop where
 cd:∀P,∃cd,uc (KL P) C=G cd/\cd.yv=true
 ga:∀P,iJ (KL P) (.N C) "__getattribute__" =G (G (.bJ "object.__getattribute__"))
 gx:∀P,iJ (KL P) (.N C) "__getattr__" =G L
 sa:∀P,iJ (KL P) (.N C) "__setattr__" =G (G (.bJ "object.__setattr__"))
 aqb:∀P,Tf (KL P) C=true
 kd:∀P n,kd C n=true->iJ (KL P) (.N C) (nm n)=G L
def Th:(af.ag 5e5 tk).p7 4e6=I.bZ k n:=by
 refine(5e5==4e6)=_;cases q:I.bZ k n with
 |true=>rw[42e5];exact vQ _
 |false=>
  apply se.bn;intro e;have:=r7 e;subst bb;rw[I.sv]at q;cases q
def afA:∀{d:0e1} {es:26e2},ly J h d es->match lk d n with
  |G v=>∃e,es.nw (·.cR.p7 (4e6))=G e/\RV J h v e.oT
  |L=>es.nw (·.cR.p7 (4e6))=L
 :=by
 intro d es apz;induction apz with
 |aR=>rfl
 | @aQ p e d es s a x=>
  rw[nT,D.find?_cons,s.1.jV,Th];cases q:I.bZ p.1 n with
  |true=>exact⟨e,H,s.2⟩
  |false=>exact x
def Ti:∀{d:0e1} {es:26e2},ly J h d es->es.fP (·.yw)=false
 :=by
 intro d es apz
 induction apz with
 |aR=>rfl
 |aQ s e x=>
  rw[D.any_cons,x];unfold iQ.yw;rw[s.1.jV];rfl
def LZ(r:ly J h d es):match lk d n with
  |G v=>∃u,L0 4e6 (hK es m)=G (G u)/\22e1
  |L=>L0 4e6 (hK es m)=G L:=by
 have z:=afA (n:=n) r;have app:=Ti r;unfold L0;refine match lk d n with
  |G v=>∃u,(match es.gG.gi.nw (·.cR.p7 (4e6))with
   |G e=>G (G e.oT)
   |L=>if es.gG.gi.fP (·.yw)then L else G L)=G (G u)/\22e1
  |L=>(match es.gG.gi.nw (·.cR.p7 (4e6))with
   |G e=>G (G e.oT)
   |L=>if es.gG.gi.fP (·.yw)then L else G L)=G L
 have el:es.gG.gi=es:=by simp
 rw[el];cases q:lk d n with
 |G v=>
  rw[q]at z;(show aN z λe s hr=>?_;try clear z);rw[s];exact⟨e.oT,H,hr⟩
 |L=>
  rw[q]at z;dsimp only at z⊢;rw[z,app];rfl
def Tj{x:Fx}{J:aW}{F:MS}{s:ae}(R:0e9){i:I}{p:9e3}{C:aI}{d:0e1}(a:J[i]? =5e1)(b:22e0 =G (113 d)):
  ∃e h es n,p.2=[h]/\L1 s.M p.1 e C (G (hK es n))/\ly J s.M d es/\e.bw=G h/\s.M.ao h=G (hK es n)/\d.U<=1000/\e.bf= .tj/\s.M.ao p.1=G e:=by
 obtain(⟨r,h,es,n,sl,k,g1,g2,g3⟩):=42 i b a;exact⟨_,h,es,n,k,⟨g1,H,H,g2⟩,g3,H,g2,r,H,g1⟩
def afB(r:22e1)(s:Qv v=true):handedIn u=true:=by
 cases r with
 |aa w=>cases w<;>first|rfl|exact nF s
 |_=>rfl
def Tl{x:Fx}{J:aW}{F:MS}{s:ae}{Q:0e5}{EE:0e5}{e:al}(R:0e9){i n:I}{p:9e3}{C:aI}{d:0e1}(apv:vP C)(b:J[i]? =5e1)(f:22e0 =G (113 d))(c:kd C n=true)
  (P:10 (Ki (lk d n) F)):97 (Cg 7e2 4e6 e):=by
 (show qi (Tj R b f) λapA apq es m S apy r a=>?_;show lJ a λhd app g t=>?_;try clear a);have apw:=st R.d8;show aN (apv.cd x.w.bV) λcd w k=>?_;have o:=apv.kd x.w.bV n c;have z:=LZ (m:=m) (n:=n) r;show eE P λv q P=>fV P λj P=>?_;rw[q]at z;(show aN z λu l h=>?_;try clear z);show get_value apw apy (apv.ga _) ?_ (afB h j) (P.jU R _ h);unfold Tm;rw[w,ar.yi,o,ar.yi];refine(W.L2 cd (G (hK es m)) 4e6).cr _=_;unfold W.L2;rw[k,eY H];dsimp only;rw[l];rfl
universe e
section
open PySem PySem.W PyProof.Rows PySem.Calls PySem.Spec PySem.SeqAt
open Builtin hiding id
open Builtin.ObjectAttr Builtin.Getset_descriptor
set_option backward.match.sparseCases false
def afC{α:Type}(d:34e7)(n:I)(v:α):(fw d n v).U<=d.U+1:=by
 induction d with
 |aR=>exact 11e7
 |aQ p d s=>
  rw[BK];cases I.bZ p.1 n with
  |true=>exact 37e8
  |false=>exact I.KU s
def p8(gf:am)(hs:K)(cR v:af)(es:26e2):26e2:=match es.L3 (·.cR.p7 gf)with
  |G i=>es.modify i λe=>{e with oT:=v}
  |L=>es++[⟨hs,cR,v⟩]
def afD:p8 gf hs cR v (e::es)=match e.cR.p7 gf with
  |true=>{e with oT:=v}::es
  |false=>e::p8 gf hs cR v es:=by
 unfold p8;rw[D.afE];cases q:e.cR.p7 gf with
 |true=>simp
 |false=>
  simp only[al.zL,zM];cases z:D.L3 (λx=>x.cR.p7 gf) es<;>simp
def afF(r:22e1)(apz:ly J h d es):ly J h (fw d n v) (p8 4e6 hs (141 tk) u es):=by
 induction apz with
 |aR=>exact 266 ⟨25e1,r⟩
 | @aQ p e d es s a x=>
  rw[afD,s.1.jV,Th];rw[BK];cases q:I.bZ p.1 n with
  |true=>exact .aQ ⟨25e1,r⟩ a
  |false=>exact .aQ s x
def Tn:∃m',aA.yx gf hs cR v (hK es m)=hK (p8 gf hs cR v es) m':=by
 rw[aA.putName_eq];refine∃m',aA.afG gf hs cR v ⟨_,_,.bw es.gG m,_⟩=_;unfold aA.afG p8;dsimp only;rw[D.findIdx?_toArray];cases z:D.L3 (λx=>x.cR.p7 gf) es with
 |L=>exact⟨m+1,by simp[hK]⟩
 |G i=>exact⟨m,by simp[hK]⟩
def afH{x:Fx}{s:ae}{A:dg}{i C e:aI}{n:I}{tk:Tok}{es:26e2}{m:I}{u:af}{b:al}{cd:ClassData}{dd:uX}{sl}{Q:138 kB}{EE:0e5}(apw:dR.In 36e4 s.M)
  (hx:s.M.ao i=G ⟨2e8,G e,dd,sl⟩) (L4:36e9=G (hK es m)) (hc:uc 36e4 C=G cd) (hd:cd.yv=true) (hn:es.fP (·.yw)=false) (hl:es.U<=1000)
  (h:∀(hs:K) (m':I),Q (.kz (.bk .L)) {s with M:=s.M.eN e (aA.yx 4e6 hs (141 s.a1) u),a1:=s.a1+1}):
  aY 3e0 A (afI (.N i) 2e8 (141 tk) 4e6 u b) Q EE s:=by
 show bg (bX (169 (afJ hx (bg ((looks_clsIn apw hc).eT ?_)))));rw[hd];show bX (a:=G e) (bg (bX 23e7));unfold nsSet;show 169 (acp (292 (To (bg (afJ L4 ?_)))));have c:(!es.gG.fP (·.cR.p7 (4e6))&&es.gG.fP (·.yw))=false:=by
  rw[<-bP.any_toList,<-bP.any_toList];simp[hn]
 unfold hK;dsimp only;rw[aRefKeyMayBeTheName_at,c];show wpAny_updatePart L4 ?_;show oE (Tn (gf:=4e6) (hs:=41e8) (cR:= 141 s.a1) (v:=u) (es:=es) (m:=m)) λm' r=>?_;have p:(s.M.eN e (aA.yx 4e6 41e8 (141 s.a1) u)).ao e=G (hK (p8 4e6 41e8 (141 s.a1) u es) m'):=by
  rw[<-r];exact 258 L4 (by rw[r];rfl)
 have k:(p8 4e6 41e8 (141 s.a1) u es).U<=es.U+1:=by
  unfold p8;split<;>simp
 show bg (abS p (pastItsLine_dict (by rw[D.LB,f3];lia)) ?_);exact bX (h _ m')
def RU(_:aW)(_:ai)(_:ez)(_:ez):Prop:=kx
def afK{apv:dR}{C:aI}{gf:am}(h:iJ apv 2e8 gf=G L):takerIn apv C gf=G L:=by
 unfold takerIn;rw[h];rfl
def afL(k:0e1->aps)(C n:I)(d:0e1)(v:V)(i:I)(F:MS):26e1:=gB (I.g6 d.U 900&&kd C n) 59 (163 () i (k (fw d n v)))
def afM{x:Fx}{J:aW}{F:MS}{s:ae}{Q:17e3}{EE:0e5}(R:0e9){i n:I}{p:9e3}{C:aI}{d:0e1}{v:V}{u:af}(apv:vP C)(e:J[i]? =5e1)(S:22e0 =G (113 d))
  (r:15e7) (P:204 (afL (.bv C) C n d v i F)):97 (Tp 7e2 4e6 u):=by
 show fV P λj P=>?_
 ·show oA (al.nM.mp j) λhd j=>?_;have hd:=I.cz hd;obtain(⟨z,h,es,m,sl,l,g1,g2,g3⟩):=42 i S e;have apy:L1 s.M p.1 _ C (G (hK es m)):=⟨g1,H,H,g2⟩;have apw:=st R.d8;show aN (apv.cd x.w.bV) λcd t f=>?_;have apq:=apv.kd x.w.bV n j;have app:=g3.cU;show set_plain apw apy (apv.sa _) ?_;show osa_open (s:=42e0) apw apy (apv.aqb _) (afK apq) λb=>?_;show afH (s:=42e0) apw g1 g2 t f (Ti g3) (by exact yr app z) λhs m'=>?_;show oE (Tn (gf:=4e6) (hs:=hs) (cR:= 141 (s.a1+1)) (v:=u) (es:=es) (m:=m)) λm' o=>?_;have apA:=R.na (o':= 113 (fw d n v)) (a:=h) e (by unfold dT;rw[l];simp) (ai.fA.eN ..) (λq c=>by rw[g2]at c;cases c;rfl) (h':=s.M.eN h (aA.yx 4e6 hs (141 (s.a1+1)) u)) (λk=>?_) (s.a1+1+1)
  ·exact 267 d2
  ·show⟨?_,h,p8 4e6 hs (141 (s.a1+1)) u es,m',sl,l,?_,?_,afF (dP k r) (xZ k g3)⟩
   ·have:=afC d n v;lia
   ·have g:p.1≠h:=by
     have:=R.nd;have w:=(D.yh.mp bb).1 p (D.jc e);unfold dT at w;rw[l]at w;exact(D.L5.mp w).1 h (D.dQ ..)
    exact((ai.fA.eN ..).2 _ g).aV g1
   ·rw[<-o];exact 258 g2 (by rw[o];rfl)
universe e
section
open PySem PySem.W PyProof.Rows PySem.Calls PySem.Spec PySem.SeqAt
open Builtin hiding id
set_option backward.match.sparseCases false
def afN{apB:iB}{A:dg}{E:0e5}{s:ae}{f:af}{e:D (al×b5 af)}{Q:138 Args}(a:e.fP (·.1)=false)
  (h:108 (nc e) (λvs s'=>Q (61 vs) s') E s):29 (evalArgs f true e []):=by
 unfold evalArgs;match e,a with
 | [],_=>
  refine 29 (nc []>>=_);show aZ (eX h (λvs s' h'=>182 (dh ?_)) λb b x=>x);exact 182 (182 (bH h'))
 |(false,x)::aD,_=>
  refine 29 (nc ((false,x)::aD)>>=_);show aZ (eX h (λvs s' h'=>182 (dh ?_)) λb b x=>x);exact 182 (182 (bH h'))
 |(true,x)::aD,a=>cases a
def Ch(h:cJ (kU ih d sc) Es es):(145 aU Es ab).fP (·.1)=false:=by
 induction h with
 |aR=>rfl
 |aQ a _ ih=>rw[nb a.1];exact ih
def yy(apB:iB)(h:ai)(u:af):Prop:=∃k,(k=Tq.ec\/k=Tq.ud\/k=Tq.boundFrame)/\e7 apB h (keeperOf u) k
def ue{apB:iB}{A:dg}{E:0e5}{s:ae}{aU:dA}{f:af}{va:2e5}{a:D (al×b5 af)}{Q:0e5}(b:a.fP (·.1)=false)
  (h:108 (nc a) (λvs s1=>yy apB s1.M f/\108 (aX f (first++vs)) Q E s1) E s):29 (L6 aU f va a []):=by
 unfold L6;show 91 (afN b (eX h (λvs s1 h1=>25e5) λe e x=>x));obtain(⟨⟨k,n,apt⟩,h1⟩):=h1;have hs:(a.fP (·.1)||([]:D (ar am×b5 af)).fP (·.1.Qz))=false:=by rw[b];rfl
 simp-fu only[hs];show ff (apt.eT λe=>?_);clear apt;have mm:∀{t:b5 af},108 t Q E s1->108 (t>>=λr=>gr [r] wD>>=λe=>b9 r) Q E s1:=
  λp=>aZ (eX p (λr v hr=>eQ (nB (OC (bH hr)))) λe e x=>x)
 have m (mk:af):108 (callMarked mk f (first++vs) []) Q E s1:=by unfold callMarked;exact XW h1
 rcases n with H|rfl|rfl<;>dsimp only<;>first|exact mm h1|(split<;>first|exact mm h1|exact mm (m _))
def Tr(v:af):Prop:=match v with
 | .bJ _=>kx
 | .aB _=>kx
 | .N a=>∀P,Ts 8e0 2e2=true
 |_=>fT
def kW(F:MS)(v:V):Prop:=match v with
 | .aa v=>Tr v
 | .Z i=>∃k n,18e7=G (.cW k n)
 |_=>fT
def afO{x:Fx}{s:ae}{v:af}(apu:hb s.M 36e4)(h:Tr v):yy 3e0 s.M v:=by
 cases v with
 |bJ=>exact⟨.ud,15e6,.qW H⟩
 |aB=>exact⟨.ud,15e6,.qW H⟩
 |N a=>exact keeps_K (h x.w.bV) s.M (st apu)
 |_=>exact h.ak
def yz{x:Fx}{J:aW}{F:MS}{s:ae}{f:V}{u:af}(R:0e9)(r:17 f u)(h:kW F f):yy 3e0 s.M u:=by
 cases f with
 |aa v=>cases r using tI.cE;exact afO R.d8 h
 |Z j=>
  obtain⟨k,n,e⟩:=h;cases r using mG.cE with
  |Z p b=>
   obtain(⟨fd,c1,c2,u1,u2,_,a,_⟩):=42 j e b;exact⟨.ec,2e6,(e7.ld (vi:=L) a).iY .o3⟩
 |_=>exact h.ak
section
variable{ih:Ih}{d:I}{sc:cD}{F:MS}
def Ci(h:cJ (kU ih d sc) Es es){Q:0e5}{EE:0e5}{g:0e0->MS->3e2}(Y:3e6)(a:44e2)(R:0e9)
  (rf:17 f u) (P:10 ((ke ih es F).aF g))
  (hg:∀as aS aC s1 us,294 aS s1->71 aC s1.M->RV (J++aC) s1.M f u->cx (J++aC) s1.M as us->aH x (J++aC) s1 (g as aS) RV Q EE->yy 3e0 s1.M u/\283 (aX u (first++us)) s1):
  26 (L6 aU u va (145 aU Es x.ab) []):=by
 show ue (Ch h) (vL h F x J s _ EE Y a R (P.aF λas aS aC s1 us b e r1 r=>?_));exact hg as aS aC s1 us b e (R.rv e rf) r1.1 r
def qX(ih:Ih)(fz:al)(d:I)(x:Fx):Prop:=∀f as F (J:aW) (s:ae) (u:af) (us:2e5) (Q:0e5) (EE:0e5),3e6->0e9->17 f u->171 as->10 (xH ih fz f as F)->
  kW F f/\26 (aX u us)
def afP(m:PX ih d sc apu aqc)(h:cJ (kU ih d sc) Es es)(p:∀x:Fx,qX ih fz d x)
  (arm:∀ab,78 (.jT apu Es [] aU)=(do L6 aU (<-78 apu) [] (145 aU Es ab) (L7 aU (L8 [] ab)))):
  43 (.jT apu Es [] aU) ((76 aqc) λf F=>(ke ih es F).aF λas F=>xH ih fz f as F):=by
 intro x J s Q EE Y e R P;rw[arm];show iL (m F x J s _ EE Y e R (P.aF λf aS j s1 u1 v u r1 r i=>?_));show Ci h Y e v r1 r λas du m2 b us a q rf r2 n=>?_;obtain⟨k,w⟩:=p x f as du _ b u1 us Q EE Y a rf r2 n;exact⟨yz a rf k,w⟩
universe e
universe e
section
open PySem PySem.W PyProof.Rows PySem.Spec PySem.SeqAt
open Builtin hiding id
set_option backward.match.sparseCases false
section
variable{bc:gT}{w:eB}{A:dg}{E:af->ae->Prop}{s:ae}
def afQ{a sl:aI}{v:af}{b m:4e9}{l u:af}{lo k:8e5}{R:138 kB}(f:A.j7=G [])(d:4e4=15e1)
  (hS:s.M.rF sl l u .L) (hl:lf l lo) (hu:lf u k)
  (hv:(∃tk,v= .iS ⟨m⟩ tk/\m.U<=16777216)\/(∃c,v= .N c/\c≠a/\37e0=282 m)) (hz:106 (bW b lo k m).U)
  (h:∀s',s'.M.ao a=282 (bW b lo k m)->(∀c o,c≠a->37e0=0e4->s'.M.ao c=0e4)->s.M.O.an<=s'.M.O.an->s'.dD=s.dD->s'.os=s.os->R (.kz (.bk .L)) s'):
  134 A (Builtin.«bytearray.__setitem__» (61 [2e2,29e5,v])) R E s:=by
 show dU (id hS) λo g q hd=>?_;have wr:∀(p:ae),p.M.ao a=15e1->(∀c o,c≠a->37e0=0e4->p.M.ao c=0e4)->s.M.O.an<=p.M.O.an->p.dD=s.dD->p.os=s.os->
   273 w A (do dH.uW (2e2) λapp=>app.oY 0 (53e3).aJ++(bP.mk m)++app.oY (423 53e3).aJ app.an;bk .L) R E p:=by
  intro p h0 k0 i g0 j;have eq:((bP.mk b).oY 0 (53e3).aJ++(bP.mk m)++(bP.mk b).oY (423 53e3).aJ (189 b)).gi=bW b lo k m:=by
   exact bC bP.gi (Sa b m lo k)
  show bg (w6 h0 ?_ λh' V s'=>bX (h _ (by rw[<-eq];exact V) (λc o q e=>?_) ?_ g0 j))
  ·rw[<-bP.J5,eq];exact hz
  ·exact(s'.2 c q).aV (k0 c o q e)
  ·rw[s'.1];exact i
 have t:∀(p:ae) (iN:af),273 w A (dH.w4 iN) (λx s'=>x=⟨m⟩/\s'=p) E p->p.M.ao a=15e1->(∀c o,c≠a->37e0=0e4->p.M.ao c=0e4)->s.M.O.an<=p.M.O.an->p.dD=s.dD->p.os=s.os->
   ∀apw:bP be->K×K×K->b5 PySem.kB,134 A (do
    let jp<-dH.w4 iN
    let afR<-dH.w4 2e2
    let o5<-sliceIndices (uU lo) (uU k) (uU L) afR.an
    if(o5.2.snd==1)=true then do
     pe "bytearray.__setitem__.slice"
     if((jp.an:K)!=jq o5.p9 o5.2.p9-o5.p9)=true then do
      dH.JJ (2e2)
      dH.uW (2e2) λapp=>app.oY 0 o5.p9.aJ++jp++app.oY (jq o5.p9 o5.2.p9).aJ app.an
      bk .L
     else do
      dH.uW (2e2) λapp=>app.oY 0 o5.p9.aJ++jp++app.oY (jq o5.p9 o5.2.p9).aJ app.an
      bk .L
    else apw jp o5) R E p:=by
  intro p iN W h0 k0 i g0 j apw;show 148 W (λx s' e=>?_) (λr r e=>e);(show oA e λS apq=>?_;subst S;subst apq);show ff (uV h0 λr=>?_);show ff (gu (Pt lo k L b.U (λe=>19e2)) λr=>?_);rw[afS];show wy cI ?_;show ff (nz λr=>?_);dsimp only;split
  ·show aZ (Px f h0 (aM.of (wr _ h0 k0 i g0 j)))
  ·exact aM.of (wr _ h0 k0 i g0 j)
 unfold Builtin.«bytearray.__setitem__»;show mg al.lM λr r=>?_;show ff (Pq hS λr=>?_);show ff (ti ⟨o,g,q⟩ λr=>mg aq λr r=>?_);show ff (JH hS hl hu λr=>?_);rcases hv with⟨tk,H,hm⟩|⟨c,H,z,P⟩
 ·show mg al.lM λr r=>?_;have n:=pq s ⟨m⟩ tk;show ff (oC n ip.aca λr=>wy cI ?_);show eQ ?_;show 169 (iR n ip.PD 20e3);show 169 (iR n ip.ab8 20e3);show cL (cL (iR n ip.ab9 (λr=>bX λr=>?_)));show oC n ip.acb ?_;show ff (gu (a:=L) H λr=>mg al.lM λr r=>?_);show ff (nz λr=>?_);show aZ (PJ (b:=m) f (247 tk H hm) λh1 e1 k1 apA=>?_);have z:a≠s.M.O.an:=299 d;show iL (349 (JH (s:=47e8) ⟨o,k1 _ _ g,q,hd⟩ hl hu λr=>?_));exact t _ _ (uV (s:=47e8) e1 15e2) (k1 _ _ d) (λc o r e=>k1 c o e) (by refine _<=h1.O.an;exact I.le.nr (id (Eq.bi apA))) H H _
 ·show uH (show¬(dH.sameRef _ _=true)from λe=>z (jx (α:=aI) e).bi) <|?_;show ff (oC (51 P) BA.jl λr=>mg aq λr r=>?_);exact t _ _ (uV P 15e2) d (λc o r e=>e) 11e7 H H _
universe e
universe e
section
open PySem PySem.W PyProof.Rows PySem.Calls PySem.Spec PySem.SeqAt
open Builtin hiding id
set_option backward.match.sparseCases false
namespace BA
def afT:pZ (.bJ "bytearray.extend")=b9 (.aB "method_descriptor"):=by refine builtinType _=_;rw[builtinType_eq_fast];kernel_rfl
def afU:PlainAttrs "bytearray" :=
 ⟨⟨"bytearray.__getattribute__",by rw[kG,kH];kernel_rfl,by decide+ci⟩,by rw[kG,kH];kernel_rfl⟩
universe e BA
def afV:nm 46=("append" :am):=av
def Tt:nm 94=("extend" :am):=av
def afW:nm 50=("pop" :am):=av
def afX:nm 75=("update" :am):=av
def L9{A:dg}{E:0e5}{w:eB}{s:ae}{a:aI}{aP:16e5}(x:s.M.ka a aP){n:I}{id:fH}{b:b5 al}{Q:af×2e5->ae->Prop}
  (slot:oy "list" 4e6 id) (hty:pZ (.bJ id)=b9 (.aB "method_descriptor")) (h:Q (.bJ id,[2e2]) s):aY (bh pw w) A (Ma 2e2 4e6 b) Q E s:=by
 (show oE x λm e=>?_;try clear x);exact Tu (51 e) PySem.apu.plainAttrs_list slot hty (λa r=>by cases r;exact(51 e)) h
def Tv{x:Fx}{A:dg}{J:aW}{F:MS}{s:ae}{Q:af×2e5->ae->Prop}{EE:0e5}(R:0e9){i n:I}{p:9e3}{o:aps}{id:fH}{u:b5 al}(j:J[i]? =5e1)(w:22e0 =0e4)(b:rS o n=G id)
  (h:Q (.bJ id,[7e2]) s):aY 3e0 A (Ma 7e2 4e6 u) Q EE s:=by
 have z:=42 i w j;clear w;have ad:∀{aP:16e5},s.M.ka p.1 aP->A1 n=G id->aY 3e0 A (Ma 7e2 4e6 u) Q EE s:=by
  intro aP k b;show cS b (λq e=>?_) λr b=>cS b (λq e=>?_) λr b=>cS b (λq e=>?_) λr b=>nS b;all_goals cases I.f0 q;subst e
  ·exact L9 k (afV▸PySem.apu.slot_list_append) PySem.apu.type_list_append h
  ·exact L9 k (Tt▸PySem.apu.afY) PySem.apu.type_list_extend h
  ·exact L9 k (afW▸PySem.apu.aeL) PySem.apu.type_list_pop h
 cases o with
 |az=>(show gq z λr r r k r=>?_;try clear z);exact ad k b
 |au=>(show gq z λr r r k r=>?_;try clear z);exact ad k b
 |bw=>
  clear ad;show cS b (λq e=>?_) λr b=>nS b;cases I.f0 q;subst e;show gq z λr r o e z=>?_;have m:o.yo:=by rcases z with⟨_,⟨_,_,m,_⟩,_⟩|⟨_,⟨_,_,m,_⟩,_⟩<;>exact m
  exact Tu ⟨_,e,m.1⟩ PySem.apu.plainAttrs_dict (afX▸PySem.apu.afZ) PySem.apu.type_dict_update (λa v=>by cases v;exact⟨_,e,m.2.1⟩) h
 |eG=>
  clear ad;show cS b (λq e=>?_) λr b=>nS b;cases I.f0 q;subst e;(show hV z λr r e=>?_;try clear z);exact Tu (apq:= "bytearray") (51 e) BA.afU (Tt▸BA.JG) BA.afT (λa v=>by cases v;exact(51 e)) h
 |_=>exact nS b
def bmK(k n:I):ar fH:=cC (I.g6 k 1) (A1 n) (142 k 2 (Qw n) (142 k 4 (Qx n) L))
def Tw(o:aps)(n:I):rS o n=bmK o.cf n:=by cases o<;>rfl
def af0(h:I.bZ o.cf o'.cf=true):rS o n=rS o' n:=by rw[Tw,Tw,I.f0 h]
structure af1(C:aI):Prop where
 bl:∀P n f,xI C n=G f->iJ (KL P) (.N C) (nm n)=G (G (.N f))/\yt (KL P) (.N f)=G (.aB "function")
def vR(e:PySem.a0):al:=!xS e λf s s s=>m6 f λs s=>true
def yA(h:vR o=true):attributeBase o eZ ab whole=whole:=by
 cases o with
 |jT f=>
  cases f with
  |dr=>exact nF h
  |_=>rfl
 |_=>rfl
def af2(h:cJ (kU ih d sc) Es es):(145 aU Es ab).dM (!·.1)=true:=by
 induction h with
 |aR=>rfl
 |aQ x hs s=>
  rw[nb x.1];refine(true&&(145 aU _ ab).dM (!·.1))=true;rw[s];rfl
def nY:Prop:=(∀C n,kd C n=true->vP C)/\∀C n f,xI C n=G f->vP C/\af1 C
def Tx(x:Fx):Prop:=∀i (p:9e3) o n id as F (J:aW) (s:ae) (us:2e5) (Q:0e5) (EE:0e5) (d:I),3e6->0e9->J[i]? =5e1->22e0 =0e4->rS o n=G id->171 as->10 (xC i o n as F)->
  26 (261 id (7e2::us))
section
variable{ih:Ih}{d:I}{sc:cD}{F:MS}
def af3{aps:PySem.a0}{b:apw}{n:I}{aU:dA}(w:nY)(q:PX ih d sc aps b)(hs:vR aps=true):
  43 (.kP aps 4e6 aU) ((76 b) λo F=>gO o 114 λi=>gN 18e7 113 λob=>Qy ob n F):=by
 intro x J s Q EE Y v R P;rw[af4,yA hs];show aZ (q F x J s _ EE Y v R (P.aF λo aS f s1 u1 u c r1 a=>?_));show 25e5;have mm:260 (Cg u1 4e6 true) Q EE s1->283 (do
   let r<-gr [u1] (Cg u1 4e6 true)
   afi aps u1 r
   b9 r) s1:=λh=>184 (hY h (λr l h2=>aM.of (bg (SC (bX h2)))) λm m e=>e)
 show mm ?_;show La r1 a λi p j a=>eE a λob e a=>?_;cases ob with
 |bv=>exact fV a λk a=>Tl u (w.1 _ _ k) j e k a
 |_=>exact a.ak
def af5(ob:Internal.aps):(∃C dd,ob= 113 dd)\/∀(ih:Ih) fz i n as F,Kj ih fz i ob n as F=gB (rS ob n).ir 119 ((ke ih as F).aF λas F=>gN 18e7 124 λh=>251 ob.cf h.cf 120 (xC i h n as F)):=by
 cases ob with
 |bv=>exact .a4 ⟨_,_,H⟩
 |_=>exact .aE λs s s s s s=>rfl
def af6{aps:PySem.a0}{V:apw}{u:10e4}{es:23e6}{n:I}{sw aU:dA}{fz:al}(apD:nY)(apF:PX ih d sc aps V)(hs:vR aps=true)(h:cJ (kU ih d sc) u es)(hl:I.jP u.U 30=true)(hp:(sw.Mb==aU.iH)=true)(apE:∀x:Fx,qX ih fz d x)(hm:∀x:Fx,Tx x):
  43 (.jT (.kP aps 4e6 sw) u [] aU) ((76 V) λo F=>gO o 125 λi=>gN 18e7 123 λob=>Kj ih fz i ob n es F):=by
 intro x J s Q EE Y app R P;rw[Ty,yA hs];show aZ (apF F x J s _ EE Y app R (P.aF λo aS m1 s1 u1 v K1 r1 a=>?_));show 25e5;have apu:Cj (u.U+([]:D Tz).U) (145 aU u x.ab) (L7 aU (L8 [] x.ab))=true:=by
  unfold Cj;rw[af2 h];refine(true&&true&&bM (u.U+0+0<30))=true;rw[al.Pk,al.Pk,BP];exact I.sj.mp hl
 unfold TA;rw[apu];have apq:∀{Q:138 dA} {s},Q aU s->26 (Cm true aps x.ab sw aU):=by
  intro Q s h;unfold Cm;rw[hp];exact bH h
 have apw:=st v.d8;show La r1 a λi p l a=>eE a λob e a=>?_;rcases af5 ob with⟨C,dd,H⟩|eq
 ·(show qi (Tj v l e) λaqP dx apC m hpp apy r W=>?_;show lJ W λhd hg hl' zz=>?_;try clear W);show kT a (λS a=>?_) λS a=>eE a λf apA a=>fV a λapx a=>?_
  ·have apv:=apD.1 _ _ S;show 184 (method_usual apw apy (apv.ga _) (apv.gx _) (apv.kd _ _ S) H (Tl v apv l e S (a.aF λf du m2 s2 B E K2 r2 apt=>?_)));show aZ (apq ?_);show Ci h Y app E r2 apt λas c A j us b t rf r3 P3=>?_;show oA (apE x f as c _ j B us Q EE Y b rf r3 P3) λk w=>?_;exact⟨yz b rf k,w⟩
  ·show oA (apD.2 _ _ _ apA) λapv apB=>?_;show oA (apB.bl x.w.bV n f apA) λhf ht=>?_;have z:=LZ (m:=m) (n:=n) r;rw[ar.isNone_iff_eq_none.mp apx]at z;show 184 (method_fn apw apy (apv.ga _) (apv.gx _) hf ht (by refine(L0 4e6 (hK apC m)).aj _=_;rw[z];rfl) ?_);show aZ (apq ?_);show Ci (f:= 5 f) h Y app v 14e9 a λas c A j us b t rf r3 P3=>?_;show oA (apE x _ (15e9::as) c _ j _ (7e2::us) Q EE Y b rf (.aQ (v.rv t (.Z i p l)) r3) P3) λk w=>?_;exact⟨yz b rf k,w⟩
 ·rw[eq]at a;show fV a λg a=>?_;show oE (ar.mV.mp g) λid g=>?_;show iL (349 (Tv v l e g λzz=>?_));show aZ (apq ?_);show Ci (f:= 355 id) h Y app v 14e9 a λas c A j us b t rf r3 P3=>⟨yz b rf d2,?_⟩;show eE P3 λapr e' P3=>fV P3 λhk P3=>?_;show aN ((v.eI t).Z i p l) λq apz hqp=>?_;exact hqp▸hm x i q apr n id as c _ j us Q EE d Y b apz e' (af0 hk▸g) r3 P3
universe e
def PB(ih:Ih)(d:I)(s:cD)(B:11e1)(b:15e5):Prop:=∀F,JB d s B F (ih 12e5 F)
def vS:PySem.a0->al
 | .gW .. =>false
 | .SetComp .. =>false
 | .DictComp .. =>false
 |_=>true
def Cn(h:vS vM=true):TB vM t n ab=42e2:=by
 cases vM<;>first|rfl|cases h
def TC{x:Fx}{d:I}(Y:3e6):interactive x.ab=false:=by
 unfold interactive;rw[Y.fn];rfl
section
variable{ih:Ih}{d:I}{sc:cD}{F:MS}
def af7:JB d sc [] F 24e8:=λx J s Q EE Y h hz e R P=>274 .bA
def af8{S:cn}{B:11e1}{b:2e9}{rb:MS->2e9}(h:JS d sc S F b)(n:∀aS,JB d sc B aS (rb aS)):JB d sc (S::B) F (b.aF λr F=>rL r F (rb F)):=by
 intro x J s Q EE Y a hz k R P;show 51e6;show aZ (h x J s _ EE Y a hz k R (P.aF λr aS w s1 u1 p v r1 e=>?_));cases r1 with
 |next=>exact n aS x _ s1 Q EE Y a hz k p e
 |bk m=>exact bH (e.fL p (.bk m))
def af9{E:PySem.a0}{e:3e2}{aU:dA}(h:43 E e)(a:vS E=true):JS d sc (.a0 E aU) F (e.aF λm F=> 24e8):=by
 intro x J s Q EE Y r hz w R P;rw[aga,TC Y,Cn a];show 44 29e0;show aZ (h x J s _ EE Y r R (P.aF λv aS n s1 u1 p k r1 b=>?_));exact aM.of (agb (b.fL p .bA))
def agc(h:43 E ra):JS d sc (.pP (G E) aU) F (ra.aF (395 (105 v))):=by
 intro x J s Q EE Y a hz k R P;show 23 (Mc ..);show 25e5;refine aM _ _ (do let v<-27e8;return iM.bk v) _ _ _;show aZ (h x J s _ EE Y a R (P.aF λv aS p s1 u1 b r r1 e=>?_));exact bH (e.fL b (.bk r1))
def agd:JS d sc (.pP L aU) F (7 (105 0e6)):=by
 intro x J s Q EE Y h hz e R P;show 23 (Mc ..);exact 44 (274 (.bk 14e9))
def age:JS d sc (.uJ aU) F 24e8:=by
 intro x J s Q EE Y h hz e R P;show 23 (arm_exec_Pass ..);exact 44 (274 .bA)
def agf{apq:PySem.a0}{B1 B2:11e1}{r:R al}{b rb:MS->2e9}{aU:dA}(h:JT d sc apq F r)(m:∀aS,JB d sc B1 aS (b aS))(n:∀aS,JB d sc B2 aS (rb aS)):
  JS d sc (.If apq B1 B2 aU) F (r.aF λc F=>cC c (b F) (rb F)):=by
 intro x J s Q EE Y e hz k R P;show 23 (arm_exec_If ..);show 44 (aZ (h x J s _ EE Y e R (P.aF λc aS w s1 u1 p v r1 a=>?_)));cases r1;cases c
 ·exact n aS x _ s1 Q EE Y e hz k p a
 ·exact m aS x _ s1 Q EE Y e hz k p a
def JW(d:I)(h:cD)(apq:PySem.a0)(B:11e1)(F:MS)(r:2e9):Prop:=
 ∀(x:Fx) (J:aW) (s:ae) (Q:34e6) (EE:0e5),3e6->x.ab.bt=h->x.fz=false->pW 3e0 x.A x.ab EE->0e9->64 r RF->
  e8 3e0 x.A (.DM apq B [] x.ab) (367 f (zD 3e0 x.A x.ab EE e s')) s
def TD{apq:PySem.a0}{B:11e1}{k:R al}{ra rw:MS->2e9}(h:JT d sc apq F k)(u:∀aS,JB d sc B aS (ra aS))(i:∀aS,JW d sc apq B aS (rw aS)):
  JW d sc apq B F (k.aF λq F=>cC q ((ra F).aF λr F=>rL r F (rw F)) 24e8):=by
 intro x J s Q EE Y b hz e R P;show zJ ?_;show eX (h x J s _ EE Y b R (P.aF λc aS f s1 u1 n l r1 p=>?_)) 51e5 e;cases r1;cases c
 ·exact p.fL n .bA
 ·show eX (u aS x _ s1 _ EE Y b hz e n (p.aF λr du m2 w u2 v o r2 m=>?_)) 51e5 e;cases r2 with
  |next=>exact i du x _ w Q EE Y b hz e v m
  |bk j=>exact m.fL v (.bk j)
def TE{apq:PySem.a0}{B:11e1}{r:2e9}{aU:dA}(h:JW d sc apq B F r):JS d sc (.Bm apq B [] aU) F r:=by
 intro x J s Q EE Y e hz a R P;show 23 (arm_exec_While ..);show 44 55e7;rw[wC];exact h x J s Q EE Y e hz a R P
universe e
def Md{α β:Type}{l:D (α×β)}:(l.aj (·.2)).dX->∀{n m:α} {c:β},(n,c)∈l->(m,c)∈l->n=m:=by
 induction l with
 |aR=>exact λx x x x h=>nomatch h
 |aQ p l e=>
  intro nd n m c h1 h2;show oA (D.jf.mp nd) λs a=>?_;rcases D.eS.mp h1 with e1|h1<;>rcases D.eS.mp h2 with e2|h2
  ·rw[<-e1]at e2;exact(kF.mk.cF e2).1.bi
  ·rw[<-e1]at s;exact bL (D.oz (f:=(·.2)) h2) s
  ·rw[<-e2]at s;exact bL (D.oz (f:=(·.2)) h1) s
  ·exact e a h1 h2
section
variable{x:Fx}{J:aW}{F:MS}{s:ae}{h':ai}
def aK.Me(R:0e9)(r:fr x a)(hs:168 a h')(hd:FA x a->∃o es n,18e4=0e4/\o.bf= .bw es n)(V:∃o,18e4=0e4)
  (hc:x.fz=false->∀n c,(n,c)∈x.ab.b3->∃w,h'.pS c w) (apC:f8 J J s.M h'->Bw x J h' T) (k:I):241 (220 T) k/\32e2:=by
 have no:¬14e2:=R.bI a r;have h:∀b q,b≠a->8e8=G q->11e8=G q:=λb q n e=>(hs.2 b n).aV e;have tk:jt s.M h':=λb q e t=>h b q (λz=>by subst z;rw[(R.tQ r e).2.2]at t;cases t) e;have bS:f8 J J s.M h':=by
  show⟨λb aP e=>?_,λb aP e d=>?_,λb apD n e d=>?_,λm p e=>⟨p,e,H⟩,λm m=>jt.dI tk⟩
  ·show gF e λo e c n dd=>?_;exact⟨o,391 o ((R.tQ r e).1 _ _ dd) e,c,n,dd⟩
  ·show gF e λo e c n dd=>?_;exact⟨⟨o,391 o ((R.tQ r e).1 _ _ dd) e,c,n,dd⟩,d⟩
  ·exact⟨391 _ ((R.tQ r e).2.1 _ _ H) e,d⟩
 show⟨⟨λq u=>h _ _ (λz=>?_) (R.d8 q u),R.cU,λj o q e1 e2=>?_,R.nd,R.gz,λb v=>by have:=R.up b v;rw[<-hs.1]at bb;exact bb,apC bS,R.bI,R.hM,R.b3,hc,λl P e app=>?_,R.fy,R.dD,R.os,tk.Y R.cW⟩,?_⟩
 ·have h1:=D.iw.mp (BW x.w.bV) q u;clear hs;have h2:=R.hM a r;rw[<-z]at h2;exact 31 (I.sj.mp h1) h2
 ·exact sf bS (λb v W e=>296 b W (no ⟨q,D.jc e2,v⟩) e) (R.O j o q e1 e2)
 ·obtain(⟨S,apt,o,f1,f2,es,n,apA⟩):=R.gD l P e app;clear no;by_cases hL:apt=a
  ·subst hL;show oo (hd ⟨l,P,e,app,f1⟩) λo' apq apw g1 g2=>?_;clear hd;exact⟨S,apt,o',f1,g1,apq,apw,g2⟩
  ·exact⟨S,apt,o,f1,h apt o hL f2,es,n,apA⟩
 ·show⟨λb q e m m i m=>296 b q (i r) e,λb q e f i=>⟨q,296 b q (i r) e,H,H⟩,λb q e t m=>tk b q e t,λb q e=>?_,(by intro b g;(show aN g λq u m=>?_;try clear g);exact nomatch u)⟩
  ·by_cases v:b=a
   ·subst v;exact V
   ·exact⟨q,h b q v e⟩
def sx{α:Type}(d:34e7)(n k:I)(v:α):19 (fw d n v)=if k=n then 2e4 else 19 d:=by
 induction d with
 |aR=>
  refine(match I.bZ n k with|true=>2e4|false=>L)=_;cases q:I.bZ n k with
  |true=>rw[eY (42e5).bi]
  |false=>rw[d6 (λe=>by subst e;rw[I.sv]at q;cases q)];rfl
 |aQ p d s=>
  rw[BK];cases q:I.bZ p.1 n with
  |true=>
   have e:=42e5;refine 19 ((p.1,_)::d)=_;rw[nT,nT p];cases z:I.bZ p.1 k with
   |true=>rw[eY ((I.f0 z).bi.aV e)];rfl
   |false=>rw[d6 (λf=>by rw[f,<-e,I.sv]at z;cases z)];rfl
  |false=>
   refine 19 (p::fw d n v)=_;rw[nT,nT];cases z:I.bZ p.1 k with
   |true=>
    have e:=I.f0 z;clear z;rw[d6 (λf=>by rw[e,f,I.sv]at q;cases q)];rfl
   |false=>exact s
variable{Q:ez->ae->Prop}{EE:af->ae->Prop}
def Mf{d k:I}{id:am}{v:V}{u:af}(Y:3e6)(hz:39e1=18e8->x.fz=false)(R:0e9)(r:15e7)(apr:id=5e5)(p:39e1=12e3\/39e1=18e8)
  (h:∀h' t,241 (F.fw k v) t->32e2->157 () t):97 (Mg x.ab id u):=by
 subst apr;show wpAny_bindName ?_;obtain⟨m,apE,hm⟩:=R.bq.iP;rcases p with p|p
 ·have E:(x.ab.bt.d9== .class||(x.ab.bt.d9== .TF&&x.ab.cY !=x.ab.ha))=false:=by rw[Y.fn];rfl
  show agg p apE (λh' l hs=>?_) E;have apA:=R.Me (T:=fw F.T k v) (h':=h') 2e6 hs (λapw=>by(show uE l λo es ep e d apw=>?_;try clear l);exact⟨o,es,ep,e,d⟩) (by(show oo l λo es ep e apw=>?_;try clear l);exact⟨o,e⟩)
   (λz n c f=>by
    show gd (R.hw z n c f) λw o e d=>?_
    exact⟨w,o,(hs.2 c (λq=>by subst q;exact R.b3.2.2 n f)).aV e,d⟩)
   (λbS=>⟨⟨_,l,λj app a b=>?_⟩,λj app a b=>?_⟩) (s.a1+1)
  ·exact h h' _ apA.1 apA.2
  ·rw[sx]at b;split at b
   ·rename_i e;subst e;cases b;exact⟨u,eY H,30e3⟩
   ·rename_i e;show aN (hm j app a b) λi e1 r1=>?_;exact⟨i,by rw[d6 (λq=>e (r7 q))];exact e1,35e0⟩
  ·rw[sx]at b;split at b
   ·rename_i e;subst e;rw[p]at a;rcases a with a|a<;>cases a
   ·obtain(⟨c,i,e1,⟨o,e2,apD⟩,r1,no⟩):=201 j app b;show⟨c,i,e1,⟨o,(hs.2 c λq=>?_).aV e2,apD⟩,35e0,no⟩;subst q;exact R.b3.2.2 _ (nf e1)
 ·show oE (ar.mV.mp (Y.vB _ (.a4 p))) λc f=>?_;have g:=nf f;have W:=hz p;clear hz;show oE (R.hw W _ _ g) λw apq=>?_;show wpAny_storeName_cell Y.fn p f apq λh' S hs=>?_;have A:x.ab.cY≠c:=λq=>by subst q;exact R.b3.2.2 _ g
  have apu:∀n,(n,c)∈x.ab.b3->n=5e5:=by
   intro n l;have nd:=R.b3.1;exact(Md nd l g)
  have apA:=R.Me (T:=fw F.T k v) (h':=h') (354 W g) hs (λC=>by
    (show aN apq λo e d=>?_;try clear apq)
    exact bL C (R.lz e λes n q=>by rw[d]at q;cases q)) (by(show aN S λo e apw=>?_;try clear S);exact⟨o,e⟩)
   (λz n P B=>by
    clear apq
    by_cases q:P=c
    ·subst q;exact⟨_,S⟩
    ·show gd (R.hw z n P B) λw o e d=>?_
     exact⟨w,o,(hs.2 P q).aV e,d⟩)
   (λbS=>⟨⟨m,apE.sameBut hs A,λj app a b=>?_⟩,λj app a b=>?_⟩) s.a1
  ·exact h h' _ apA.1 apA.2
  ·rw[sx]at b;clear A h;split at b
   ·rename_i e;subst e;rw[p]at a;cases a
   ·show aN (hm j app a b) λi e1 r1=>?_;clear p;exact⟨i,e1,35e0⟩
  ·rw[sx]at b;split at b
   ·rename_i e;subst e;cases b;exact⟨c,u,f,S,30e3,R.bI c (354 W g)⟩
   ·rename_i e;clear S f g;obtain(⟨P,i,e1,⟨o,e2,apD⟩,r1,no⟩):=201 j app b;clear b;show⟨P,i,e1,⟨o,(hs.2 P λq=>?_).aV e2,apD⟩,35e0,no⟩;clear e2 hs no;subst q;exact e (r7 (apu _ (nf e1)))
universe e
def Mh{h:ai}{a:aI}{aP:16e5}(x:h.ka a aP)(f:16e5->16e5):(h.eN a (aA.py f)).ka a (f aP):=by
 (show oE x λn e=>?_;try clear x);have:∃s,aA.py f (328 aP n)=(328 (f aP) s):=by
  unfold aA.py;exact 25e1
 (show oE bb λs hm=>?_;try clear bb);exact⟨s,by rw[258 e (by rw[hm];rfl),hm]⟩
section
variable{α:Type}[qO α]
def agh{bK:D (α×af)}{v:af}(a:(q::bK).aj (·.1) |>.dX):yC (q::bK) k v=if q.1=k then(q.1,v)::bK else q::yC bK k v:=by
 unfold yC;by_cases e:q.1=k
 ·have x:∀p∈bK,p.1≠k:=λp s z=>(D.jf.mp a).1 (by refine q.1∈_;rw[e,<-z];exact D.oz s);rw[eY e,eY (D.qa.bn ⟨q,D.dQ ..,eF e⟩),D.nZ,eY e,(D.yD λp s=>d6 (x p s):bK.aj (λh=>if h.1=k then(h.1,v)else h)=bK.aj id),D.map_id]
 ·rw[d6 e,D.any_cons,D.nZ,d6 e,fY e,al.false_or];split<;>rfl
def TG(p:V×V)(l:5e6)(k v:V):iU (p::l) k v=cC (m0 p.1 k) ((p.1,v)::l) (p::iU l k v):=av
def TH{f:α->V->Prop}(i:∀{a b k n},f a k->f b n->m0 k n=bM (a=b)){k v:V}{u:af}(w:f a k)(r:22e1){l:5e6}{bK:D (α×af)}(s:RK f J h l bK):(bK.aj (·.1)).dX->RK f J h (iU l k v) (yC bK a u):=by
 induction s with
 |aR=>exact λj=> 266 ⟨w,r⟩
 | @aQ p q l bK x s ih=>
  intro m;rw[agh m];rw[TG,i x.1 w];by_cases e:q.1=a
  ·rw[eF e,eY e];exact .aQ ⟨x.1,r⟩ s
  ·rw[fY e,d6 e];exact .aQ x (ih (D.jf.mp m).2)
universe e
def TJ(k v:V)(l:5e6):(iU l k v).U<=l.U+1:=by
 induction l with
 |aR=>exact 11e7
 |aQ p l s=>
  rw[TG];cases m0 p.1 k with
  |true=>exact 37e8
  |false=>exact I.KU s
section
variable{x:Fx}{J:aW}{F:MS}{s:ae}{Q:ez->ae->Prop}{EE:af->ae->Prop}
def TK{h:ai}{a:aI}{o:aA}(e:14e4=0e4)(x:o.yo)(hd:∃es ep,o.bf= .bw es ep):∀q,14e4=G q->ix q=false:=by
 intro q s;rw[e]at s;cases s;show qh hd λes ep hd=>?_;exact tL hd
def agi{k:I}{p:9e3}{l:5e6}{i v:V}{app u:af}{Q:17e3}(R:0e9)(apw:F.dL k=G (.bw l))(g:J[k]? =5e1)(n:nJ l i=true)(A:l.U<=900)(ri:17 i app)(r:15e7)
  (h:∀{h' t},241 (F.cN k (.bw (iU l i v))) t->32e2->157 () t):97 (sy 7e2 app u):=by
 show gq (42 k apw g) λq apE c e z=>?_;have j:c.yo/\∃es ep,c.bf= .bw es ep:=by rcases z with⟨_,⟨es,ep,j,hd,_⟩,_⟩|⟨_,⟨es,ep,j,hd,_⟩,_⟩<;>exact⟨j,es,ep,hd⟩
 have iW:=TK e j.1 j.2;clear j;have apr:nE x J s.M 7e2 l:=by
  show⟨p.1,H,?_,z.f5 (.f5 λW w=>⟨377 c e w.1,w.2⟩) (.f5 λW w=>⟨377 c e w.1,w.2⟩)⟩;have h1:=R.gz p.1 ⟨p,D.jc g,D.dQ ..⟩;show se.bn λq=>?_;rw[q]at h1;exact bL h1 aq
 clear z e;have go:∀{apv:Type} [qO apv] {gZ:x7 pw x.w apv} {f:38e7} (S:∀{a b k P},f a k->f b P->m0 k P=bM (a=b)) {a:apv} {bK:31e5} (n:f a i) (apq:gZ.is a app=true),s.M.qP gZ p.1 bK->RK f J s.M l bK->
   (∀{h'} {o:aA},(∃bK,o.qL gZ bK/\RK f J h' (iU l i v) bK)->DK x.w J h' o (iU l i v))->97 (sy 7e2 app u):=by
  intro apv _ gZ f S a bK n apq d m fW;have B:=TJ i v l;show wpAny_setItem_pairs apq d (λh' apD hs=>?_) (by rw[f3,m.cU];lia);have apA:=339 (.bw (iU l i v)) g hs iW ⟨q,bN,(ai.lZ.mp apD).f5 λo' w=>⟨w.1,fW ⟨_,w.2,TH S n (dP k r) (tO k m) (Rw d)⟩⟩⟩ (s.a1+1);exact h apA.1 apA.2
 clear h;induction ri using RV.cE with
 |y=>
  show jC (x8 apr n) λa bK e1 n1 d m=>?_;cases e1;exact go BH 25e1 (eF H) d m .a4
 |ag=>
  show jC (BJ apr n) λa bK e1 n1 d m=>?_;clear n1;cases e1;exact go BI H (eF H) d m .aE
 |_=>exact nF n
def agj{o i v:V}{m c u:af}(R:0e9)(g:17 o m)(ri:17 i c)(r:15e7)(P:204 (Kg F o i v)):
  97 (sy m c u):=by
 induction g using RV.cE with
 |Z k p a=>
  show eE P λob b P=>?_;cases ob with
  |az l t=>
   show m8 ri P λj t' tk P=>?_;show oA (tY P) λh P=>?_;have h:=fq h;(show gq (42 k b a) λq app aP d w=>?_;(show oE d λn e=>?_;try clear d));have W:=iy w;show ki_setAt e h.1 bN (by refine j<((aP.U:I):K);lia) ?_;have apA:=R.na (o':= .az (l.cN j.aJ v) (t'||t)) a (D.dQ ..) (ai.fA.eN ..) (tZ (⟨_,e,H,n,H⟩:152 p.1 aP)) (h':=s.M.eN p.1 (aA.py (·.pY j.aJ u))) (λk=>⟨q,by rw[D.vO];exact app,aP.cN j.aJ u,by simpa using Mh ⟨n,e⟩ (·.pY j.aJ u),.cN (dP k r) (hN k w) _⟩) s.a1;exact 267 d2
  |bw l=>exact fV P λz P=>fV P λS P=>agi R b a z (I.cz S) ri r λapq f=>P.bk apq f d2
  |_=>exact P.ak
 |_=>exact P.ak
universe e
def yE{α:Type}(r:3e3):r.cj []=r:=by cases r<;>rfl
def qY{α β:Type}(a:α)(F:MS)(f:α->MS->R β):(R.Y a F).aF f=f a F:=yE _
def sz(J:aW)(h:ai):9e5->af->Prop
 |L,u=>u= .L
 |G v,u=>22e1
def Mi(k:f8 J xY h h'):∀{o:9e5} {u:af},sz J h o u->sz xY h' o u
 |L,_,e=>e
 |G _,_,r=>dP k r
def Co(J:aW)(h:ai)(p:9e5×9e5)(u:af):Prop:=∃sl x s,u= 29e5/\h.rF sl x s .L/\sz J h p.1 x/\sz J h p.2 s
inductive PO (ih:Ih) (d:I) (sc:cD):ar PySem.a0->ar apw->Prop
 |L:PO ih d sc L L
 |G {E e}:PX ih d sc E e->PO ih d sc (G E) (G e)
def vT(ih:Ih)(lo s:ar apw)(F:MS):R (9e5×9e5):=(lV ih lo F).aF λlo F=>(lV ih s F).aF λs F=> 7 (lo,s)
section
variable{ih:Ih}{d:I}{sc:cD}
def TL(h:PO ih d sc E e)(F:MS)(x:Fx)(J:aW)(s:ae)(Q:0e5)(EE:0e5)(Y:3e6)(b:44e2)(R:0e9)(P:64 (lV ih e F) sz):
  26 (valueOrNone (evalOpt E x.ab)):=by
 cases h with
 |L=>exact 274 H
 |G h=>exact h F x J s Q EE Y b R (P.aF λv aS k s1 u1 r p r1 a=>a.fL r r1)
def TM{apt apA:41e7}{lo e:ar apw}(n:PO ih d sc apt lo)(w:PO ih d sc apA e)(F:MS)(x:Fx)(J:aW)(s:ae)(Q:0e5)(EE:0e5)(Y:3e6)(b:44e2)(R:0e9)(P:64 (vT ih lo e F) Co):
  26 (233 (.r6 apt apA L aU)):=by
 show 23 (arm_eval_Slice ..);show aZ (TL n F x J s _ EE Y b R (P.aF λv aS u s1 u1 r j r1 m=>?_));show 91 (TL w aS x _ s1 _ EE Y b r (m.aF λv2 du m2 a u2 i p r2 q=>?_));show 91 32e5;have E:=i.ext (jY (330 "slice" #[u1,u2,.L])) (vI _) a.a1;have k:=je (J:=J++u++m2) (jY (330 "slice" #[u1,u2,.L])) (h:=a.M);show aM.of (qt ?_);exact q.bk E.1 E.2 ⟨_,u1,u2,H,.jp ..,Mi k (Mi (r.eI p) r1),Mi k r2⟩
universe e
def TN(r:sz J h o u)(e:vi o=G (i,t)):lf u i:=by
 cases o with
 |L=>cases e;have:u= .L:=r;rw[bb];exact .L
 |G v=>cases v with
  |y i t=>cases e;have:146 (.y _ _):=r;cases bb;exact .y ..
  |_=>exact 18e0
set_option tactic.hygienic true in
theorem uf{lo s:9e5}{r p:af}{x app:8e5}{t:al}(rl:sz J h lo r)(k:sz J h s p)(e:AV lo s=G (x,app,t)):lf r x/\lf p app:=by
 unfold AV at e;split at e
 ·rename_i a t' e1;split at e
  ·rename_i b m e2;cases e;exact⟨TN rl e1,TN k e2⟩
  ·cases e
 ·cases e
section
variable{x:Fx}{J:aW}{F:MS}{s:ae}{Q:af->ae->Prop}{EE:af->ae->Prop}
def ug{α δ:Type}{br:200 α δ}{Q:38e2}{C:Prop}{lo e:9e5}{w:I}{f:8e5->8e5->al->3e3}(P:11 (gS lo e w f))(g:∀a b t,AV lo e=G (a,b,t)->11 (f a b t)->C):C:=eE P λp h P=>g p.1 p.2.1 p.2.2 h P
def agk{β:Type}{C:38e4}{l:2e1}{d:β}{f:4e9->2e1->β}(hd:C d)(s:∀app o,C (f app o)):C (Kb l d f):=yg hd λq o=>by
 cases q with
 | «by» app=>exact s app o
 |_=>exact hd
def agl{fz:al}{a:V}{p:9e5×9e5}{apq up:af}(R:0e9)(apE:17 a apq)(apA:Co J s.M p up)(P:10 (tB fz a p.1 p.2 F)):
  97 (pm apq up):=by
 (show k7 apA λsl apr B apD j r1 r2=>?_;try clear apA;subst apD);induction apE using RV.cE with
 |ch b tk n=>exact ug P λlo k t e P=>(uf r1 r2 e).ak λp1 m=>aeE R n j p1 m P
 |ad l t a aP v A n w=>
  have P:10 (gS p.1 p.2 30 λx app u=>223 (178 l) (t||u)):=P;show ug P λlo k t e P=>?_;exact(uf r1 r2 e).ak λp1 m=>Lr R v w n j p1 m P
 |Z i q f=>
  show eE P λob S P=>?_;cases ob with
  |az l t=>
   show gq (R.O _ _ q S f) λc n aP v w=>?_;have P:10 (gS p.1 p.2 31 λx app u=>223 (178 l) (t||u)):=P;show ug P λlo k t e P=>?_;exact(uf r1 r2 e).ak λp1 m=>Lr R v.iI w n j p1 m P
  |au l=>
   show gq (R.O _ _ q S f) λc n aP v w=>?_;have P:10 (gS p.1 p.2 32 λx app c=>cC fz (7 (6 (178 l.et))) (F.jp (.au (178 l.et).et))):=P;show ug P λlo k t e P=>(uf r1 r2 e).ak λp1 m=>?_;have apw:=iy w;have g:=Lq l.et lo k;rw[D.lA]at apw g;cases fz with
   |true=>
    show Lr (fz:=true) (t:=true) R v.iI w (408 n) j p1 m ?_;show⟨λp d=>?_,P.2⟩;have d:p∈ (287 (bE l.et lo k).U)++[]:=d;rw[D.dZ,D.cZ]at d;rw[d];exact I.dV g n
   |false=>
    show aeD v.iI j p1 m .L (by simp) ?_ (364 aP.U);rw[Sb];have W:=Se lo k w;exact R.BR (jY _) (Li _) P s.a1 λbS=>⟨H,by rw[D.lA];lia,bE aP lo k,⟨_,10e0⟩,by rw[D.Sm];exact hN bS W⟩
  |eG b=>
   show hV (R.O _ _ q S f) λc n v=>?_;have P:10 (gS p.1 p.2 33 λx app c=>Kb F.bG (7 (.ei (178 b))) λz o=> 20 (.ei z) F.O F.T o [178 b=z]):=P;show ug P λlo k t e P=>(uf r1 r2 e).ak λp1 m=>?_;have g:=Lq b lo k;show abO v j p1 m (by rw[BV];refine(bE b lo k).U<=_;lia) ?_;rw[BV];have E:=R.ext (jY (fj (bE b lo k))) (vI _) s.a1;have no:¬cy J s.M.O.an:=λh=>293 (R.up _ h);have cR:RV J (s.M.b6 (fj (bE b lo k))) (.ei (bE b lo k)) 9e9:= .ei _ _ 10e0 no bN;revert P;show agk (C:=λr=>10 r->_) (λP=>P.bk E.1 E.2 cR) λz o P=>?_;exact P.2 [] _ _ (by rw[D.dZ];exact E.1.bG o) E.2 (by rw[D.dZ,<-(oV P.1:bE b lo k=z)];exact cR)
  |_=>exact P.ak
 |_=>exact P.ak
def agm{fz:al}{a:V}{lo h:9e5}(P:10 (tB fz a lo h F)):LD F a:=by
 cases a with
 |ch=>trivial
 |ad=>trivial
 |Z o=>exact eE P λob e P=>57e0
 |_=>exact P.ak
universe e
section
variable{ih:Ih}{d:I}{sc:cD}{F:MS}
def agn{A:PySem.a0}{e:apw}{apt apA:41e7}{lo h:ar apw}{r aU:dA}{fz:al}(m:PX ih d sc A e)(b:PO ih d sc apt lo)(v:PO ih d sc apA h):
  43 (.qI A (.r6 apt apA L r) aU) (13e9 λo F=>(lV ih lo F).aF λlo F=>(lV ih h F).aF λh F=>tB fz o lo h F):=by
 have cR:=SD (aU:=aU) (br:=Co) (ri:=vT ih lo h) (f:=λa p F=>tB fz a p.1 p.2 F) (m F) (apy:= .r6 apt apA L r) (λaS x J s Q EE Y n R P=>TM b v aS x J s Q EE Y n R P)
  (λaS x J s Q EE a i q u Y R k ri P=>by
   show gd (SE R k (agm P)) λapq id w b=>?_
   exact SA w b (agl R k ri P))
 have eq:(13e9 λa F=>(vT ih lo h F).aF λp F=>tB fz a p.1 p.2 F)=13e9 λo F=>(lV ih lo F).aF λlo F=>(lV ih h F).aF λh F=>tB fz o lo h F:=by
  congr 1;funext a F;unfold vT;rw[yl];congr 1;funext lo F;rw[yl];congr 1;funext h F;exact qY ..
 rw[<-eq];exact cR
def ago{Q:0e5}{EE:0e5}(P:10 (xz a i F)):LD F a:=by
 cases a with
 |X=>trivial
 |ad=>trivial
 |Z o=>exact eE P λob e P=>57e0
 |aa v=>exact eE P λl h b=>bC ar.ir h
 |_=>exact P.ak
def agp{A apy:PySem.a0}{b h:apw}{aU:dA}(p:PX ih d sc A b)(r:PX ih d sc apy h):
  43 (.qI A apy aU) ((76 b) λo F=>(76 h) λi F=>xz o i F):=
 SD (aU:=aU) (br:=RV) (ri:=ck ih h) (f:=λa i F=>xz a i F) (p F) (λaS x J s Q EE Y k R P=>r aS x J s Q EE Y k R P)
  (λaS x J s Q EE a i v w Y R e ri P=>by
   show gd (SE R e (ago P)) λapq id n m=>?_
   exact SA n m (aes R e ri P))
universe e
def agq{bc:gT}{w:eB}{A:dg}{E:0e5}{s:ae}{o i v:af}{apq id:fH}{b:Builtin}{Q:17e3}(x:s.kK o apq)(p:seqItemTypes.hW apq=false)(S:oy apq "__setitem__" id)(r:mt kI id=G b)(hd:dH.wx.hW id=false)(k:kJ id (61 [o,i,v]))
  (h:134 A.fh (b (61 [o,i,v])) (λf s'=>match f with| .kz (.bk _)=>Q () s'|_=>fT) E s):134 A (sy o i v) Q E s:=by
 unfold sy;show dh (eQ (agr x p ?_));show 27e5;unfold Ax;show ff (iR x S.bY λe=>?_);simp only[S.cr];show dh (182 (aZ (rh (JL S.tj hd r (S.check _ _ _ _ _ _ _ _ x k ?_)))));show eX h (λf s' a=>?_) λe e z=>z;rcases f with(v|_|_|_)|c
 all_goals first|exact bH (bH a)|exact a.ak
def Mj{α:Type}(l m:8e4)(lo s:8e5):(bW l lo s m).U<=l.U+m.U:=by
 unfold bW;rw[D.hP,D.hP,D.qQ,D.sg,I.TP];exact I.TQ (I.dV (I.ags (I.sub_le_sub_left (I.dV (I.KX ..) (I.le_max_left ..)) _) _) (I.h8 (I.agt (I.Sc ..)))) _
section
variable{bc:gT}{w:eB}{A:dg}{E:af->ae->Prop}{s:ae}
def agu{a sl b:aI}{us p:2e5}{o u:af}{lo r:8e5}{Q:17e3}(i:s.M.ka a 29e3)(hs:s.M.rF sl o u .L)(z:lf o lo)(app:lf u r)(v:152 b p)(g:b≠a)(hz:us.U+p.U<=16777216)
  (h:∀h',h'.ka a ⟨bW us lo r p⟩->168 a h'->158 ()):41 (sy 2e2 29e5 (.N b)):=by
 have d:=i;(show oE i λn q=>?_;try clear i);show gF (id v) λob f apq apA P=>?_;have l:s.kK 2e2 "list" :=(51 q);show dU (id hs) λos m t j=>?_;have c:s.kK 29e5 "slice" :=⟨os,m,t⟩;unfold sy;show nB (bg (agr l aq ?_));show bg (w9 (gf:=am.pj "__setitem__") l PySem.apu.agv
  (ny PySem.apu.agv l PySem.apu.entry_list_setitem ?_ (PySem.apu.args_list_setitem_3 _ _ _)))
 refine aY _ _ (Builtin.D.agw 29e5>>=_) _ _ s;show 23e7;unfold Builtin.D.agw;show cL (iR c abM λk=>?_);show bX (a:=L) ?_;refine aY _ _ (pZ 29e5>>=_) _ _ s;show cL (ti c λk=>?_);show 35e2 <|?_;refine aY _ _ (Builtin.D.listSliceParts 29e5>>=_) _ _ s;rw[listSliceParts_eq];show 169 (hH m j (x:= .L) H (bg (TR .L ?_)));rw[d6 (412 ((uU L==iE 0)=true))];show bg (hH m j (x:=o) H (bg (TR z ?_)));show bg (hH m j (x:=u) H (bg (TR app 20e3)));have S:¬(Builtin.D.P5 2e2 (.N b)=true):=by
  refine¬((a==b)=true);rw[AB];exact λe=>g e.bi
 show k8 S <|?_;show 23e7;unfold Builtin.D.listAllItems;show cL (ti v.mY λk=>?_);show pc aq <|?_;unfold Builtin.D.P9;show bg (AJ f P 20e3);show cL (bg (AJ q H (bX λk=>?_)));show cL (gu (Pt lo r L us.U (λe=>19e2)) λk=>?_);have v:sliceBounds lo r L us.U=(50e5,((r.ak us.U (kO us.U):I):K),1):=afS ..;rw[v];dsimp-fu only;show pc cI <|?_;show cL (nz λk=>?_);have R:¬(Builtin.D.Lm ((189 us)+(189 p))=true):=by
  unfold Builtin.D.Lm;rw[BP,f3];refine¬(us.U+p.U>_);exact I.dv.bn hz
 show k8 R <|?_;have V:=Mj us p lo r;have eg:=Mh d (λxs=>xs.oY 0 (50e5).aJ++bP.mk p++xs.oY (jq 50e5 ((r.ak us.U (kO us.U):I):K)).aJ xs.an);have e:=Sa us p lo r;show bg (AH q H ?_ (by rw[f3];refine us.U<=_;exact I.Rq hz) ?_)
 ·show bg (PU (bX ⟨_,H,bX (h _ ?_ (ai.fA.eN ..))⟩));rw[<-e];exact eg
 ·show I.dV (I.h8 (bC bP.an e)) ?_;refine(bW us lo r p).U<=_;rw[f3];lia
universe e
def aH.mono{α β:Type}{x:Fx}{J:aW}{s:ae}{r:3e3}{br:17e8}{Q e:12e2}{EE:0e5}(P:27e7)(h:∀u s',Q u s'->e u s'):100 r br e:=by
 cases r with
 |aT a F ob=>exact⟨P.1,λm s' u R apv r=>h _ _ (P.2 m s' u R apv r)⟩
 |a8=>exact P
 |no=>exact P.ak
def agx(lo s:8e5)(r:83 l)(x:cx J h m ms):cx J h (bW l lo s m) (bW us lo s ms):=by
 unfold bW;rw[iy r];exact((r.fI _).lX x).lX (r.fi _)
def agy{h:ai}{a:aI}{b:4e9}(e:14e4=15e1):∀q,14e4=G q->ix q=false:=by
 intro q s;rw[e]at s;cases s;rfl
section
variable{x:Fx}{J:aW}{F:MS}{s:ae}{Q:ez->ae->Prop}{EE:af->ae->Prop}
def TS{d k:I}{q:9e3}{b m:4e9}{u n r:af}{lo h:8e5}{sl:aI}(Y:3e6)(R:0e9)(l:F.dL k=G (.eG b))(p:J[k]? =G q)(j:(∃tk,u= .iS ⟨m⟩ tk/\m.U<=16777216)\/(∃c,u= .N c/\c≠q.1/\37e0=282 m))
  (hS:s.M.rF sl n r .L) (p1:lf n lo) (p2:lf r h) (P:204 ((gv (b.U+m.U) true F).aF λo F=> 163 () k (.eG (bW b lo h m)))):26 (sy (.N q.1) 29e5 u):=by
 show oA (sk P) λhz P=>?_;show hV (R.O k _ q l p) λqq f a=>?_;have v:=Mj b m lo h;show agq (apq:= "bytearray") (51 a) aq BA.abz BA.abC 9e8 (BA.abH _ _ _) ?_;show afQ (A:=x.A.fh) Y.j7 a hS p1 p2 j (by exact I.dV v hz) λs' e w z g o'=>?_;have apA:=R.Sj (s':=s') (o':= .eG (bW b lo h m)) p (D.dQ ..) (λc oc i e=>w c oc i e) (agy a) (λk=>⟨qq,by exact I.dV v hz,e⟩) g o';exact 267 d2
def agz(Y:3e6)(R:0e9)(apw:17 o uo)(W:Co J s.M p up)(r:15e7)(P:204 (xB F o p.1 p.2 v)):
  26 (sy uo up u):=by
 (show k7 W λsl E B A w r1 r2=>?_;try clear W;subst A);induction apw using RV.cE with
 |Z k q h=>
  have apq:cy J q.1:=⟨q,D.jc h,D.dQ ..⟩;show eE P λob f P=>?_;cases ob with
  |az l t=>
   show gq (R.O k _ q f h) λqq C aP S V=>?_;have P:204 (gS p.1 p.2 65 λx app u=>match v with
    | .ad m t'=>(gv (l.U+m.U) (t||u||t') F).aF λi F=> 163 () k (.az (bW l x app m) (t||u||t'))
    |_=> .no 65):=P
   show ug P λlo n t' e P=>(uf r1 r2 e).ak λp1 a=>?_;clear e;induction r using RV.cE with
   |ad m apD c apr j z apu g=>
    show oA (sk P) λhz P=>?_;have h1:=iy V;have h2:=iy g;have apx:=Mj l m lo n;show aM.of (agu S w p1 a j (λe=>by subst e;exact z apq) bN λh' apE hs=>?_);have apA:=R.na (o':= .az (bW l lo n m) (t||t'||apD)) (h':=h') h (D.dQ ..) hs (tZ S.iI) (λk=>⟨qq,bN,_,apE,agx lo n (hN k V) (hN k g)⟩) s.a1;exact 267 d2
   |_=>exact P.ak
  |eG b=>
   have P:204 (gS p.1 p.2 67 λx app i=>match v with
    | .ch m=>(gv (b.U+m.U) true F).aF λi F=> 163 () k (.eG (bW b x app m))
    | .ei m=>(gv (b.U+m.U) true F).aF λi F=> 163 () k (.eG (bW b x app m))
    |_=> .no 67):=P
   show ug P λlo n t' e P=>(uf r1 r2 e).ak λp1 a=>?_;clear e;induction r using RV.cE with
   |ch m tk hm=>exact TS Y R f h (.a4 ⟨tk,H,hm⟩) w p1 a P
   |ei m c j z hm=>exact TS Y R f h (.aE ⟨c,H,λe=>by subst e;exact z apq,j⟩) w p1 a P
   |_=>exact P.ak
  |_=>exact P.ak
 |_=>exact P.ak
def agA(b:nY)(R:0e9)(a:17 o uo)(r:15e7)(P:204 (qD F o n v)):97 (Tp uo 4e6 u):=by
 induction a using RV.cE with
 |Z i q e=>
  show eE P λob p P=>?_;cases ob with
  |bv C dd=>exact afM R (fV P λh k=>b.1 _ _ (al.nM.mp h).2) e p r P
  |_=>exact P.ak
 |_=>exact P.ak
universe e
def PA(ih:Ih)(d:I)(h:cD)(k:I)(apq:PySem.a0)(t:Internal.apq):Prop:=
 ∀(v:V) (F:MS) (x:Fx) (J:aW) (s:ae) (u:af) (Q:17e3) (EE:0e5),3e6->x.ab.bt=h->x.fz=false->0e9->15e7->204 (jQ ih k t v F)->
  26 (rG apq x.ab u)
section
variable{ih:Ih}{d k:I}{sc:cD}
def Cp{id:am}{n:I}(p:id=4e6)(h2:(147 sc id||ew sc id .dm)=true):PA ih d sc (k+1) (174 aU) (.n n):=by
 intro v F x J s u Q EE Y e hz R r P;have P:204 (.Y () (F.fw n v)):=P;show 23 (agB ..);show 44 (aM.of (Mf Y (λm=>hz) R r p ?_ λh' t a b=>P.bk a b d2));rcases al.tR.mp h2 with h|h
 ·exact .a4 (l3 h e)
 ·exact .aE (l3 h e)
def agC{aps:PySem.a0}{h:apw}{n:I}{aU:dA}(p:nY)(m:PX ih d sc aps h):PA ih d sc (k+1) (.kP aps 4e6 aU) (.a h n):=by
 intro v F x J s u Q EE Y b hz R r P;have P:204 ((76 h) λo F=>qD F o n v):=P;show 23 (agD ..);show 91 (m F x J s _ EE Y b R (P.aF λo aS j s1 u1 w e r1 a=>?_));show 44 (184 (agA p w r1 (R.rv e r) (a.mono λi q h2=>?_)));exact aM.of (vJ h2)
def agE{aps apy:PySem.a0}{h e:apw}{aU:dA}(j:PX ih d sc aps h)(m:PX ih d sc apy e):PA ih d sc (k+1) (.qI aps apy aU) (.s h e):=by
 intro v F x J s u Q EE Y p hz R r P;have P:204 ((76 h) λo F=>13e9 λi F=>Kg F o i v):=P;show 23 (agF ..);show iL (dh (j F x J s _ EE Y p R (P.aF λo aS app s1 u1 a n r1 q w=>?_)));show 91 (m aS x _ s1 _ EE Y p a (q.aF λi du m2 f u2 c b r2 l=>?_));show 44 (184 (agj c (a.rv b r1) r2 (a.rv b (R.rv n r)) (l.mono λw t h3=>?_)));exact aM.of (vJ h3)
def agG{aps:PySem.a0}{e:apw}{apt apA:41e7}{lo h:ar apw}{l aU:dA}(t:PX ih d sc aps e)(c:PO ih d sc apt lo)(f:PO ih d sc apA h):PA ih d sc (k+1) (.qI aps (.r6 apt apA L l) aU) (.sl e lo h):=by
 intro v F x J s u Q EE Y w hz R r P;have P:204 (13e9 λo F=>(lV ih lo F).aF λlo F=>(lV ih h F).aF λh F=>xB F o lo h v):=P;have eq:(13e9 λa F=>(vT ih lo h F).aF λp F=>xB F a p.1 p.2 v)=13e9 λo F=>(lV ih lo F).aF λlo F=>(lV ih h F).aF λh F=>xB F o lo h v:=by
  congr 1;funext a F;unfold vT;rw[yl];congr 1;funext lo F;rw[yl];congr 1;funext h F;exact qY ..
 rw[<-eq]at P;show 23 (agF ..);show iL (dh (t F x J s _ EE Y w R (P.aF λo aS apq s1 u1 b q r1 j n=>?_)));show iL (dh (TM c f aS x _ s1 _ EE Y w b (j.aF λi du m2 g u2 z m r2 app n=>?_)));show 44 (91 (agz Y z (b.rv m r1) r2 (b.rv m (R.rv q r)) (app.mono λn S h3=>?_)));exact aM.of (vJ h3)
universe e
def qZ:PySem.a0->al
 | .Starred .. =>false
 |_=>true
def Cq{α:Type}(t:9e4):29e4:=if h:t.cf=0 then b5.b9.ak (wF:=λs=>29e4) t h G else L
def agH{α:Type}{t:9e4}{a:α}(h:Cq t=11e3):t= .b9 a:=by
 by_cases k:t.cf=0
 ·exact b5.b9.ak (wF:=λt=>Cq t=11e3->t= .b9 a) t k (λb h=>bC _ 52e4) h
 ·unfold Cq at h;rw[dif_neg k]at h;exact nS h
def yF(s:cD)(apq V:PySem.a0):ar (ar (D am)):=Cq (agI [apq] V {(nu:eA)with bt:=s})
def Mk{s:cD}{apq V:PySem.a0}{r:ar (D am)}{ab:eA}(h:yF s apq V=G r)(x:ab.bt=s):agI [apq] V ab=b9 r:=by
 subst x;exact agH h
def vU(T:0e1)(l:0e1):0e1:=l.i9 (λT p=>fw T p.1 p.2) T
def TU{a b:I}(h:a≠b):I.bZ a b=false:=by
 cases q:I.bZ a b with
 |false=>rfl
 |true=>exact bL 42e5 h
def TV(l:0e1)(k:I)(s:(l.aj (·.1)).dX):∀T,19 (vU T l)=(19 l).or 19e1:=by
 induction l with
 |aR=>exact λT=>rfl
 |aQ p l ih=>
  intro T;show oA (D.jf.mp s) λh1 h2=>?_;show(ih h2 (fw T p.1 p.2)).aV ?_;rw[sx];refine _=(match I.bZ p.1 k with|true=>37e6|false=>19 l).or _;by_cases q:k=p.1
  ·rw[eY q,q,I.sv];cases z:lk l p.1 with
   |L=>rfl
   |G v=>exact bL (D.oz (iX z)) h1
  ·rw[d6 q,TU (Ne.bi q)]
def TX{l:0e1}{k:I}{v:V}(s:(l.aj (·.1)).dX)(h:(k,v)∈l):19 l=2e4:=by
 induction l with
 |aR=>exact nomatch h
 |aQ p l ih=>
  show oA (D.jf.mp s) λh1 h2=>?_;rw[nT];rcases D.eS.mp h with e|h
  ·rw[<-e,I.sv];rfl
  ·rw[TU λ(e:p.1=k)=>h1 (by refine p.1∈_;rw[e];exact D.oz (f:=(·.1)) h)];exact ih h2 h
def agJ{l:0e1}(s:(l.aj (·.1)).dX)(k:I):19 l.et=19 l:=by
 have hr:(l.et.aj (·.1)).dX:=by rw[D.Ml,D.dX,D.agK];exact s.f5 Ne.bi
 cases q:lk l k with
 |G v=>exact TX hr (D.AE.bn (iX q))
 |L=>
  cases z:lk l.et k with
  |L=>rfl
  |G v=>
   have:=TX s (D.AE.mp (iX z));rw[q]at bb;cases bb
def aK.agL{x:Fx}{J:aW}{O:1e0}{T mJ:0e1}{bG:2e1}{s:ae}(R:161 (62 bG))(h:∀k,19 mJ=19e1):161 (199 mJ bG):=by
 show⟨R.d8,R.cU,R.O,R.nd,R.gz,R.up,⟨?_,λk v a b=>201 k v ((h k).bi.aV b)⟩,R.bI,R.hM,R.b3,R.hw,R.gD,R.fy,R.dD,R.os,R.cW⟩;obtain⟨m,e,hm⟩:=R.bq.iP;exact⟨m,e,λk v a b=>hm k v a ((h k).bi.aV b)⟩
section
variable{x:Fx}{J:aW}{s:ae}{Q:ez->ae->Prop}{EE:af->ae->Prop}
def agM{d:I}(Y:3e6)(hz:x.fz=false):∀{ns:D I} {vs:0e0} {us:2e5} {F:MS} {s:ae},ns.U=vs.U->(∀n∈ns,x.ab.dB 4e6=12e3)->0e9->171 vs->
  (∀h' t,241 ⟨F.O,vU F.T (ns.fx vs),F.bG⟩ t->32e2->157 () t)->97 (Mm ((ns.aj nm).aj λn=>Mg x.ab n) us):=by
 intro ns;induction ns with
 |aR=>
  intro vs us F s e _ R r h;cases r with
  |aR=>exact bX (h s.M s.a1 R (Kp.b8 ..))
  |aQ=>cases e
 |aQ n ns w=>
  intro vs us F s e a R r h;cases r with
  |aR=>cases e
  |aQ r q=>
  show PyProof.Rows.assignInOrder_cons ?_;show Mf Y (λi=>hz) R r H (.a4 (a n (D.dQ ..))) λh' t v b=>?_;have k:=R.eI b;rw[D.dZ]at k;show w (by simpa using e) (λm hm=>a m (54 hm)) v (hN k q) λh2 t2 u p=>h h2 t2 u ?_;have:=b.aV (297 p);exact bb
universe e
section
variable{ih:Ih}{d k:I}{sc:cD}
def TY{vs:0e0}{ns:D I}:∀{vs:0e0} (F:MS),ns.U=vs.U->qF (jQ ih (k+1)) (ns.aj apq.n) vs F= .Y () ⟨F.O,vU F.T (ns.fx vs),F.bG⟩:=by
 induction ns with
 |aR=>
  intro vs F h;cases vs with
  |aR=>rfl
  |aQ=>cases h
 |aQ n ns s=>
  intro vs F h;cases vs with
  |aR=>cases h
  |aQ v vs=>
   refine(R.Y () (F.fw n v)).aF _=_;rw[qY];exact s (F.fw n v) (I.hI.cF h)
def yG{apq:PySem.a0}{s:10e4}{ab:eA}(h:43e8=true):vV (apq::s) ab=(false,rG apq ab)::vV s ab:=by
 cases apq<;>first|rfl|cases h
def agN:∀{e:10e4} {ts:50e8} {vs:0e0} {us:2e5},cJ (λapq t=>43e8=true/\PA ih d sc k apq t) e ts->ts.U=vs.U->∀(F:MS) (x:Fx) (J:aW) (s:ae) (Q:17e3) (EE:0e5),3e6->x.ab.bt=sc->x.fz=false->0e9->171 vs->
  204 (qF (jQ ih k) ts vs F)->26 (Mm ((vV e x.ab).aj (·.2)) us):=by
 intro e ts vs us apz;induction apz generalizing vs us with
 |aR=>
  intro a F x J s Q EE Y p hz R r P;cases r with
  |aR=>exact 274 d2
  |aQ=>cases a
 | @aQ apq t e ts h hs q=>
  intro a F x J s Q EE Y p hz R r P;have m:=h.1;have h:=h.2;cases r with
  |aR=>cases a
  | @aQ v u vs us r i=>
  have P:204 ((jQ ih k t v F).aF λb F=>qF (jQ ih k) ts vs F):=P;rw[yG m];refine aM _ _ (do gr us (rG apq x.ab u);Mm ((vV e x.ab).aj (·.2)) us) Q EE s;show 91 (h v F x J s u _ EE Y p hz R r (P.aF λb aS l s1 b j n b w=>?_));exact q (by simpa using a) aS x _ s1 Q EE Y p hz j (R.Rp n i) w
def agO{s:10e4}{ts:50e8}{ab:eA}(apz:cJ (λapq t=>43e8=true/\PA ih d sc k apq t) s ts):(vV s ab).U=ts.U/\(vV s ab).L3 (·.1)=L:=by
 induction apz with
 |aR=>exact 15e2
 |aQ h _ x=>
  rw[yG h.1];exact⟨bC (· +1) x.1,by rw[D.afE,x.2];rfl⟩
def TZ{p:10e4}{ts:50e8}{c}{aU:dA}(h:cJ (λapq t=>43e8=true/\PA ih d sc k apq t) p ts):PA ih d sc (k+1) (.kj p c aU) (.t ts):=by
 intro v F x J s u Q EE Y f hz R r P;induction r using RV.cE with
 |X vs a aP l z n=>
  show fV P λapp P=>?_;have m:=I.f0 app;have j:=n.cU;show oA (agO (ab:=x.ab) h) λe1 e2=>?_;show 23 (arm_assign_Tuple ..);show 25e5;unfold unpack;rw[e1,e2,<-m,<-j];show 184 (PyProof.Rows.agP (aP:=32e3) Y.e9 l λh' i=>?_);have w:∀b o,8e8=0e4->11e8=0e4:=λb o e=>i b o 41e9 e;have E:=R.jy w s.a1;have q:=P.qM (s1:=35e9) E.2;rw[D.dZ]at q;exact agN h m.bi F x J _ Q EE Y f hz E.1 (hN (je w) n) q
 |_=>exact P.ak
universe e
def agQ{α β:Type}{l:8e4}{m:D β}(h:l.U=m.U):l.et.fx m.et=(l.fx m).et:=by
 refine D.zipWith kF.mk l.et m.et=(D.zipWith kF.mk l m).et;rw[D.reverse_zipWith h]
def T3{apB:iB}{A:dg}{E:0e5}{s:ae}{n:fH}{Q:17e3}(h:Q () s):29 (pe n):=aM.of (nz h)
section
variable{ih:Ih}{d k:I}{sc:cD}{F:MS}
def agR{apq E:PySem.a0}{t:Internal.apq}{e:apw}{aU:dA}(h:PX ih d sc E e)(n:PA ih d sc k apq t)(hs:43e8=true)(r:vS E=true)(p:yF sc apq E=G L):
  JS d sc (.pQ [apq] E aU) F (132 13e9 (m3 (jQ ih k t v F))):=by
 intro x J s Q EE Y a hz o R P;show 54e5;show 25e5;rw[show Mo [apq] E aU.iH x.ab=TB E (G apq) aU.iH x.ab from H,Cn r];show 29e0;rw[d6 aq];show aZ (h F x J s _ EE Y a R (P.aF λv aS c s1 u1 q j r1 m=>?_));rw[Mk p a,yG hs];show 29e0;refine aM _ _ (do rG apq x.ab u1;b9 .bA) Q EE s1;show aZ (n v aS x _ s1 u1 _ EE Y a hz q r1 (m.aF λb du m2 i b u l b w=>?_));exact bH (w.fL u .bA)
def agS{w m:10e4}{ns:D I}{c c' Cr Mp aU}(h:PX ih d sc (.kj m c Cr) e)(apE:yF sc (.kj w c' Mp) (.kj m c Cr)=G (G (ns.aj nm)))(apD:ns.dM (λn=>147 sc 4e6)=true)(q:ns.dX):
  JS d sc (.pQ [.kj w c' Mp] (.kj m c Cr) aU) F (132 13e9 (m3 (jQ ih (k+2) (.t (ns.aj .n)) v F))):=by
 intro x J s Q EE Y i hz apu R P;show 54e5;show 25e5;rw[show Mo [.kj w c' Mp] (.kj m c Cr) aU.iH x.ab=42e2 from H];show 29e0;rw[d6 aq];show aZ (h F x J s _ EE Y i R (P.aF λv aS u s1 u1 S apr r1 r=>?_));rw[Mk apE i];show 29e0;induction r1 using RV.cE with
 |X vs a aP W C t=>
  have r:aH x (J++u) s1 (m3 (251 vs.U (ns.aj apq.n).U 105 (qF (jQ ih (k+1)) (ns.aj .n) vs aS))) RF Q EE:=r;cases l:I.bZ vs.U (ns.aj apq.n).U with
  |false=>rw[l]at r;exact r.ak
  |true=>
   rw[l]at r;have p:=I.f0 l;rw[D.fs]at p;have apw:=t.cU;have r:aH x (J++u) s1 (m3 (qF (jQ ih (k+1)) (ns.aj .n) vs aS)) RF Q EE:=r;rw[TY (k:=k) (vs:=vs) aS p.bi]at r;have r:aH x (J++u) s1 ((Internal.R.Y () ⟨aS.O,vU aS.T (ns.fx vs),aS.bG⟩).aF λB F=> 24e8) RF Q EE:=r;rw[qY]at r;refine aM _ _ (do pe "assign.swapped-stores";let aP<-unpackItems 2e2 (ns.aj nm).U L;Mm ((ns.aj nm).et.aj λn=>Mg x.ab n) aP.et;b9 .bA) Q EE s1;show aZ (T3 ?_);rw[D.fs,<-p,<-apw];show 166 (PyProof.Rows.agP (aP:=32e3) Y.e9 W λh' apA=>?_);have app:∀b o,s1.M.ao b=0e4->11e8=0e4:=λb o e=>apA b o 41e9 e;have E:=S.jy app s1.a1;have z:=r.qM (s1:={s1 with M:=h'}) E.2;rw[D.dZ]at z;show 27e5;rw[<-D.Ml];have V:=cJ.rev (hN (je app) t);show aM.of (agM Y hz (by rw[D.lA,D.lA,p]) (λn hm=>l3 (D.iw.mp apD n (D.AE.mp hm)) i) E.1 V λh2 t2 f A=>32e5);rw[agQ p.bi]at f;have j:((ns.fx vs).aj (·.1))=ns:=by rw[D.map_fst_zip (I.h8 p.bi)]
   have g:=f.agL (mJ:=vU aS.T (ns.fx vs)) λk=>by
    rw[TV _ _ (by rw[j];exact q),TV _ _ (by rw[D.Ml,j,D.dX,D.agK];exact q.f5 Ne.bi),agJ (by rw[j];exact q)]
   exact z.bk g A .bA
 |_=>exact r.ak
universe e
set_option backward.match.sparseCases true
section
variable{bc:gT}{w:eB}{A:dg}{E:af->ae->Prop}{s:ae}{R:mf->ae->Prop}
def agT
  (h:aY (bh bc w) A (oD it) (λr b=>match r with
   |L=>219 .bA b
   |G v=>273 w A (AC iT it v) (λa b=>134 A (rG iT ab v) (λa n=>134 A (mj cX ab) (λf p=>match f with
     | .bA| .zK=>96 A (.Mq iT it cX [] ab) R p
     | .brk=>219 .bA p
     | .bk v=>333 v p) (j6 6e2 A ab 14e7) n) (j6 6e2 A ab 14e7) b) (j6 6e2 A ab 14e7) b) (j6 6e2 A ab 14e7) s):96 A (.Mq iT it cX [] ab) R s:=by
 show mh H ?_;refine aM _ _ (407 (forTurn iT it cX [] ab)) _ _ s;show zB ?_;simp-fu only[forTurn];show eQ (pt (eQ (acO (hY h (λr b m=>?_) λa a h'=>pt h'))));cases r with
 |L=>exact bH ⟨H,Oz (aM.of (zN m))⟩
 |G v=>
  show 148 m (λa b m=>?_) 26e8;show aZ (eX m (λa n q=>aZ (eX q (λf p k=>?_) 26e8)) 26e8);cases f with
  |next=>exact bH (238 k)
  |zK=>exact bH (238 k)
  |brk=>exact bH k
  |bk v=>exact bH k
def T4:D fH:=["enumerate", "zip", "dict_itemiterator", "dict_reverseitemiterator", "odict_iterator", "itertools.zip_longest", "itertools.pairwise"]
def Mr{Q:17e3}(e:s.M.ao r=0e4)(x:o.bj= .aB n)(b:T4.hW n=false)(h:Q () s):
  41 (AC iT (.N r) v):=by
 obtain(⟨oc,k,dd,sl⟩):=o;dsimp-fu only at x;subst x;have cR:aY 6e2 A (do
  let(.N r,.N a):=(af.N r,v)|return
  let o<-zO r
  match o.bj,o.bf with
  | .aB n,.cp vs=>
   if T4.hW n&&vs[0]? ==G (iE a)then
    pe "for.unpacks-the-owned-tuple"
    updateField r 0 .L
  |_,_=>b9 ()) Q E s:=by
  cases v<;>first|exact bX h|skip
  show cL (rm e λp=>?_);clear e;cases dd<;>first|exact bX h|skip
  dsimp only;rw[b,al.false_and,d6 al.lM];exact 22e2
 cases iT<;>first|exact cR|exact bX h
universe e
section
variable{x:Fx}{J dC aC:aW}{F:MS}{s:ae}{h0 h':ai}
def uh(o:aA):Prop:=(∀xs n,o.bf≠ .cH xs n)/\(∀b n,o.bf≠ .qs b n)/\(∀w,o.bf≠ .dm w)/\ix o=false
def T7(hd:o.bf= 27e1)(x:o.bj= .aB n)(h:n≠ "code"):uh o:=by
 show⟨λs s e=>?_,λs s e=>?_,λs e=>?_,?_⟩
 ·rw[hd]at e;cases e
 ·rw[hd]at e;cases e
 ·rw[hd]at e;cases e
 ·unfold ix;rw[hd,x];refine(_==_)=false;exact se.bn h
structure o6(x:Fx)(J:aW)(h:ai)(a:aI):Prop where
 d3:¬cy J a
 fr:¬fr x a
 fa:¬FA x a
 j0:lx<=a
 cp:∀o,h.ao a=G o->uh o
def aK.hR(R:0e9){wr:11e9}(h:∀a∈wr,o6 x J s.M a)(i:∀b o,b∉wr->8e8=0e4->11e8=0e4)(k:I):241 F k:=by
 have tk:jt s.M h':=λb q e t=>i b q (415 ((h b z).cp q e)) e;have bS:f8 J J s.M h':=by
  show⟨λb aP e=>?_,λb aP e no=>?_,λb apD n e no=>?_,λg p e=>⟨p,e,H⟩,λg g=>jt.dI tk⟩
  ·show gF e λo e c n dd=>?_;exact⟨o,i b o (λz=>((h b z).cp o e).1 _ _ dd) e,c,n,dd⟩
  ·show gF e λo e c n dd=>?_;exact⟨⟨o,i b o (λz=>((h b z).cp o e).1 _ _ dd) e,c,n,dd⟩,no⟩
  ·exact⟨i b _ (λz=>((h b z).cp _ e).2.1 _ _ H) e,no⟩
 show⟨λq apq=>i _ _ (λz=>?_) (R.d8 q apq),R.cU,λj o q e1 e2=>?_,R.nd,R.gz,λb f=>?_,⟨?_,λk v a b=>?_⟩,R.bI,R.hM,R.b3,λz n c P=>?_,λl S e app=>?_,R.fy,R.dD,R.os,tk.Y R.cW⟩
 ·have h1:=D.iw.mp (BW x.w.bV) q apq;exact 31 (I.sj.mp h1) (h _ z).j0
 ·exact sf bS (λb f W e=>i b W (λz=>(h b z).d3 ⟨q,D.jc e2,f⟩) e) (R.O j o q e1 e2)
 ·show oE (R.g7 f) λq e=>?_;exact ai.cQ (i b q (λz=>(h b z).d3 f) e)
 ·obtain(⟨m,⟨o,es,ep,e,r⟩,hm⟩):=R.bq.iP;show(314 ⟨o,es,ep,i _ o (λz=>(h _ z).fr 2e6) e,r⟩);show aN (hm k v a b) λu e1 r1=>?_;exact⟨u,e1,35e0⟩
 ·obtain(⟨c,u,e1,⟨o,e2,apA⟩,r1,no⟩):=201 k v b;exact⟨c,u,e1,⟨o,i c o (λz=>((h c z).cp o e2).2.2.1 _ apA) e2,apA⟩,35e0,no⟩
 ·show gd (R.hw z n c P) λw o e d=>?_;exact⟨w,o,i c o (λq=>(h c q).fr (247 z n P)) e,d⟩
 ·obtain(⟨apw,apt,o,f1,f2,es,n,V⟩):=R.gD l S e app;exact⟨apw,apt,o,f1,i apt o (λq=>(h apt q).fa ⟨l,S,e,app,f1⟩) f2,es,n,V⟩
def Kp.hR(apv:56 dC x h0 s.M){wr:11e9}(k:∀a∈wr,46e3=L)(h:∀b o,b∉wr->8e8=0e4->11e8=0e4):56 dC x h0 h':=by
 have p:∀b o,h0.ao b=0e4->b∉wr:=λb o e z=>225 (k b z) e;show⟨λa o e t f g m=>h a o (p a o e) (apv.bS a o e t f g m),λa o e f g=>?_,λa o e t n=>h a o (p a o e) (apv.iW a o e t n),λa o e=>?_,apv.fm⟩
 ·show aN (apv.ju a o e f g) λo' e1 r=>?_;exact⟨o',h a o' (p a o e) e1,r⟩
 ·show oE (apv.g7 a o e) λo' e1=>?_;exact⟨o',h a o' (p a o e) e1⟩
universe e
set_option backward.match.sparseCases false
inductive qb (J:aW) (h:ai):oN->I->aI->Prop
 |ad (l ax aP k apy):h.gY ax ⟨aP⟩->¬cy J ax->cx J h l aP->h.Ms apy ax k->ax≠apy->qb J h (.fB l) k apy
 |j8 (i p k apy):J[i]? =G p->h.Ms apy p.1 k->p.1≠apy->qb J h (.j8 i) k apy
inductive Mt (J:aW) (h:ai):oN->I->aI->Prop
 |iN {s k apy}:qb J h s k apy->Mt J h s k apy
 |X (l ax aP k apy):jm h ax ⟨aP⟩->cx J h l aP->xf h apy ax k->ax≠apy->Mt J h (.fB l) k apy
inductive sA (J:aW) (h:ai) (e:aI):oN->I->aI->Prop
 |iN {s k apy}:qb J h s k apy->sA J h e s k apy
 |ba (b ax k apy):h.ao ax=G (fj b)->¬cy J ax->nA h apy ax k->ax≠apy->sA J h e (.fB (b.aj bB)) k apy
def T8(apB:iB)(A:dg)(h:ai)(z:aI)(wr:11e9):Prop:=(∃o n,h.ao z=0e4/\o.bj= .aB n)/\
 (∀(s:ae) (Q:12e4->ae->Prop) (E:0e5),(∀a∈wr,∀o,14e4=0e4->4e4=0e4)->(∀a aP,jm h a aP->jm s.M a aP)->(∀h' tk,(∀b o,b∉wr->8e8=0e4->11e8=0e4)->157 L tk)->68 (oD (.N z)))/\
 ∀(s:ae) (Q:0e5) (E:0e5),(∀a∈wr,∀o,14e4=0e4->4e4=0e4)->(∀a aP,jm h a aP->jm s.M a aP)->Q (.N z) s->68 (qv (.N z))
inductive j1 (x:Fx) (J:aW) (h:ai):It->I->aI->D aI->Prop
 |ej {s k apy}:Mt J h s k apy->j1 x J h (.ej s) k apy [apy]
 |gM {s} {k:I} {e apy h7}:u8 h e apy k h7->sA J h e s k apy->e≠apy->j1 x J h (.gM s) k e [e,apy]
 |dS {n k:I} {apy}:k<=n->IsRangeIter h apy k ((n:K)-k) 1->j1 x J h (.dS n) k apy [apy]
 |aR {k z wr}:T8 (bd x) x.A h z wr->z∈wr->j1 x J h .aR k z wr
def Wr(x:Fx)(J:aW)(h:ai)(wr:11e9):Prop:=∀a∈wr,o6 x J h a/\∃o,14e4=0e4
section
variable{x:Fx}{J aC:aW}{F:MS}{s:ae}{h h':ai}
def Wr.km(W:Wr x J h wr)(R:0e9)(e:s.M=h)(apv:56 J x h h'):Wr x (J++aC) h' wr/\∀a∈wr,∀o,14e4=0e4->18e4=0e4:=by
 have im:∀a∈wr,∀o,14e4=0e4->18e4=0e4:=by
  intro a r o b;show oA (W a r) λA m=>?_;exact apv.bS a o b (A.cp o b).2.2.2 A.fa A.fr A.d3
 show⟨λa r=>?_,im⟩;show sO (W a r) λA o b=>?_;have p:=im a r o b;show⟨⟨λq=>?_,A.fr,A.fa,A.j0,λo' k=>?_⟩,o,p⟩
 ·rcases 46e2 with q|q
  ·exact A.d3 q
  ·exact nN ((324 q) b)
 ·rw[p]at k;cases k;exact A.cp o b
def qb.km{k:I}{apy:aI}(S:qb J h sc k apy)(s:f8 J (J++aC) h h')(x:∀o,h.ao apy=0e4->h'.ao apy=0e4):qb (J++aC) h' sc k apy:=by
 cases S with
 |ad l m aP _ _ a no r it ne=>exact .ad l m aP _ _ (s.ad _ _ a no).1 (s.ad _ _ a no).2 (hN s r) (it.at x) ne
 |j8 i p _ _ e it ne=>
  show aN (s.Z i p e) λq n b=>?_;exact .j8 i q _ _ n (b▸it.at x) (b▸ne)
def j1.km(apq:j1 x J h it k iv wr)(p:f8 J (J++aC) h h')(m:∀a∈wr,∀o,14e4=0e4->18e4=0e4):j1 x (J++aC) h' it k iv wr:=by
 cases apq with
 |ej S=>
  have v:=m _ 28e4;cases S with
  |iN S=>exact .ej (.iN (S.km p v))
  |X l j aP _ _ a r it ne=>exact .ej (.X l j aP _ _ (p.X _ _ a) (hN p r) ((by(show aN it λo q r=>?_;try clear it);exact⟨o,v o q,r⟩)) ne)
 |gM f S ne=>
  have t:=m _ (D.dQ ..);have v:=m _ (54 28e4);show .gM (t _ f) ?_ ne;cases S with
  |iN S=>exact .iN (S.km p v)
  |ba b j _ _ a no it ne=>exact .ba b j _ _ (p.ei _ _ _ a no).1 (p.ei _ _ _ a no).2 ((by(show aN it λo q r=>?_;try clear it);exact⟨o,v o q,r⟩)) ne
 |dS g hr=>exact .dS g (m _ 28e4 _ hr)
 |aR apC hz=>
  (show hV apC λd apC app=>?_;(show gd d λo n q z=>?_;try clear d));exact .aR ⟨⟨o,n,m _ hz o q,z⟩,λs Q E hs u c=>apC s Q E (λa w o e=>hs a w o (m a w o e)) (λa i e=>u a i (p.X a i e)) c,λs Q E hs u c=>app s Q E (λa w o e=>hs a w o (m a w o e)) (λa i e=>u a i (p.X a i e)) c⟩ hz
def Cs(it:It)(apq:PySem.a0):Prop:=match it with
 | .gM _=>∃s k aU,apq= .kj s k aU
 |_=>kx
def Mu{l:0e0}{us:2e5}{k:I}(r:83 l)(e:l[k]? =L):us[k]? =L:=by
 rw[D.getElem?_eq_none_iff]at e⊢;rw[iy r];exact e
universe e
section
variable{x:Fx}{J aC:aW}{F:MS}{s:ae}{h h':ai}
def Mv{wr:11e9}(r:∀a∈wr,o6 x J h a)(s:∀b o,b∉wr->h.ao b=0e4->11e8=0e4):f8 J J h h':=by
 show(421 ⟨p,e,H⟩ (s b q (415 ((r b z).cp q e)) e))
 ·show gF e λo e c n dd=>?_;exact⟨o,s b o (λz=>((r b z).cp o e).1 _ _ dd) e,c,n,dd⟩
 ·show gF e λo e c n dd=>?_;exact⟨⟨o,s b o (λz=>((r b z).cp o e).1 _ _ dd) e,c,n,dd⟩,no⟩
 ·exact⟨s b _ (λz=>((r b z).cp _ e).2.1 _ _ H) e,no⟩
def Wr.to(W:Wr x J h wr)(p:∀a∈wr,∃o vs n,18e4=0e4/\o.bf= 27e1/\o.bj= .aB n/\n≠ "code"):Wr x J h' wr:=by
 intro a s;show oA (W a s) λA k=>?_;show k7 (p a s) λo vs n e d c r=>?_;exact⟨⟨A.d3,A.fr,A.fa,A.j0,λo' b=>by rw[e]at b;cases b;exact T7 d c r⟩,o,e⟩
def ng{apy:aI}(hs:ai.fA apy h h'):∀b o,b∉ [apy]->h.ao b=0e4->11e8=0e4:=λb o s e=>hs.mu b o (λq=>s (by rw[q];exact 28e4)) e
def sA.Z{e:aI}{k:I}{apy:aI}(S:sA J h e sc k apy):∃o vs n,h.ao apy=0e4/\o.bf= 27e1/\o.bj= .aB n/\n≠ "code" :=by
 cases S with
 |iN S=>
  cases S with
  |ad l x aP _ _ s no r eu ne=>(show dU eu λo a b c=>?_;try clear eu);exact⟨o,_,_,a,c,b,aq⟩
  |j8 i p _ _ m eu ne=>(show dU eu λo a b c=>?_;try clear eu);exact⟨o,_,_,a,c,b,aq⟩
 |ba b x _ _ s no eu ne=>(show dU eu λo a b c=>?_;try clear eu);exact⟨o,_,_,a,c,b,aq⟩
def T9{d:I}(Y:3e6)(R:0e9){k:I}{e apy:aI}{h7:af}(W:Wr x J s.M [e,apy])(i:u8 s.M e apy k h7)(ne:e≠apy){c:V}(apA:∃z k aU,iT= .kj z k aU){Q:12e4->ae->Prop}{EE:0e5}
  {fp:11e9} {n:I} {P:I->af->Prop} {St:I->ai->Prop} (apr:Draws pw x.w x.A.fh apy fp n P St) (fo:St k s.M) (Mw:k<n) (Ua:e∉fp) (hv:∀app,P k app->17 c app) (mk:∀h2,f8 J J s.M h2->St (k+1) h2->sA J h2 e sc (k+1) apy)
  (h:∀u h1 t1,(∀(l:17e3) (S:0e5),(∀h2,230 F (84 h2 t1)->RV J h2 (.X [0 k,c]) u->j1 x J h2 (.gM sc) (k+1) e [e,apy]->Wr x J h2 [e,apy]->(∀b o,b∉ [e,apy]->8e8=0e4->h2.ao b=0e4)->l () (84 h2 t1))->
   260 (AC iT 9e6 u) l S (84 h1 t1))->Q (G u) (84 h1 t1)):97 (oD 9e6):=by
 show wpAny_pyNext_enum_itemD apr i fo Mw ne Ua λapp h1 tk apw t apE B hz g=>h _ h1 (tk+1) λl S apq=>?_;clear h;(show np apA λz E aU A=>?_;try clear apA;subst A);show wpAny_letOwnedTupleGo_enum (s:=(350 h1 tk 1)) t λh2 w v=>?_;clear t;have f:e<s.M.O.an:=ai.cQ i;clear i;have m:∀b o,b∉ [e,apy]->8e8=0e4->h2.ao b=0e4:=λb o p j=>
  v.mu b o (λq=>p (by rw[q];exact D.dQ ..)) (g b o (λq=>p (by rw[q];exact D.dQ ..)) (λq=>p (by rw[q];exact 54 28e4)) j)
 clear g;have bS:=Mv (λa r=>(W a r).1) m;have apD:=apr.ec _ _ _ apE λb p o j=>v.mu b o (λq=>Ua (q▸p)) j;have S2:=mk h2 bS apD;clear mk;have C:((k:K)+1)=49e1:=by exact K.ofNat_add_one_out k
 rw[C]at w;show apq h2 (R.hR (λa r=>(W a r).1) m _) (.X _ _ [.y k tk,app] ⟨_,v.mu _ _ (I.vc f) B,H,_,H⟩ (by refine 2<=_;decide) (327 (.y ..) (dP bS (hv app apw)))) (.gM w S2 ne) (W.to λa r=>?_) m;clear f apq W m v;rcases 48e6 with H|r
 ·exact⟨_,_,_,w,H,H,aq⟩
 ·rw[44e9];exact S2.Z
def qb.at{k:I}{apy:aI}(S:qb J s.M sc k apy)(R:0e9){r:9e5}(e:sc.at F k=G r):
  ∃l h aP,152 h aP/\cx J s.M l aP/\s.M.Ms apy h k/\h≠apy/\l[k]? =r/\∀h2,f8 J J s.M h2->h2.Ms apy h (k+1)->qb J h2 sc (k+1) apy:=by
 cases S with
 |ad l h aP _ _ a no r eu ne=>exact⟨l,h,aP,a,r,eu,ne,11e6,λh2 m b=> .ad l h aP _ _ (m.ad _ _ a no).1 no (hN m r) b ne⟩
 |j8 i p _ _ n eu ne=>
  show aN 30e9 λl e v=>?_;show aN 36e2 λo w e=>?_;show dU (aps.vE e (42 i w n)) λaP a r q=>?_;exact⟨l,p.1,aP,a.iI,r,eu,ne,v,λh2 m b=> .j8 i p _ _ n b ne⟩
set_option tactic.hygienic true in
theorem Ub{d:I}(Y:3e6)(R:0e9){k:I}{f:aI}{wr:11e9}(apq:j1 x J s.M it k f wr)(W:Wr x J s.M wr){v:V}(e0:32e4=G 2e4)(apF:Cs it iT){Q:12e4->ae->Prop}{EE:0e5}
  (h:∀u h1 t1,(∀(apw:17e3) (B:0e5),(∀h2,230 F (84 h2 t1)->RV J h2 v u->j1 x J h2 it (k+1) f wr->Wr x J h2 wr->(∀b o,b∉wr->8e8=0e4->h2.ao b=0e4)->apw () (84 h2 t1))->
   260 (AC iT (.N f) u) apw B (84 h1 t1))->Q (G u) (84 h1 t1)):97 (oD (.N f)):=by
 have aqd:x.A.e9=L:=Y.e9;cases apq with
 |ej S=>
  cases S with
  |iN S=>
   show sQ (S.at R e0) λl m aP p r eu ne i mk=>?_;show aN (r.dL i) λu z P=>?_;show wpAny_pyNext_list_item eu p (x:=u) (by simpa using z) λh2 g hs=>h u h2 s.a1 λapw B apA=>?_;show dU (id g) λo2 apE apD apu=>?_;have w:=Mv 46e4 (ng hs);show Mr (s:={s with M:=h2}) apE apD aq (apA h2 (R.hR 46e4 (ng hs) s.a1) (dP w P) (.ej (.iN (mk h2 w g))) 56e0 (ng hs));rw[D.cZ.mp p];exact⟨o2,_,_,apE,apu,apD,aq⟩
  |X l m aP _ _ p r eu ne=>
   show aN (r.dL (ar.G.cF e0)) λu z P=>?_;show PyProof.Rows.next_tuple_item eu p (x:=u) (by simpa using z) λh2 g hs=>h u h2 s.a1 λapw B apA=>?_;show dU (id g) λo2 apE apD apu=>?_;have w:=Mv 46e4 (ng hs);show Mr (s:={s with M:=h2}) apE apD aq (apA h2 (R.hR 46e4 (ng hs) s.a1) (dP w P) (.ej (.X l m aP _ _ (w.X _ _ p) (hN w r) g ne)) 56e0 (ng hs));rw[D.cZ.mp p];exact⟨o2,_,_,apE,apu,apD,aq⟩
 | @gM sc _ e apy h7 A S ne=>
  have apB:x.A.fh.e9=L:=aqd;show aN (ar.hh.mp e0) λo0 apv e0=>?_;(show aN (ar.hh.mp e0) λaqe Mx apt=>?_;subst Mx;subst apt);cases S with
  |iN S=>
   show sQ (S.at R apv) λl m aP p r eu C i mk=>?_;show aN (r.dL i) λu z P=>?_;have E:f≠m:=λq=>by
    (show dU p λo e1 e2 zz=>?_;try clear p);rw[<-q,A]at e1;exact bL (show af.aB "enumerate" =51e4 from(bC aA.bj (ar.G.cF e1)).aV e2) aq
   show T9 Y R W A ne apF (Draws.az apB apy m C 32e3) ⟨eu,p⟩ (118 z) (by simp[ne,E]) (λapp j=>?_) (λh2 w apr=> .iN (mk h2 w apr.1)) h;have j:aP[k]? =G app:=by simpa using j
   cases z.bi.aV j;exact P
  |ba b m _ _ p no eu C=>
   have i:(b.aj bB)[k]? =G aqe:=ar.G.cF apv;clear apv;rw[D.n4]at i;(show aN (ar.hh.mp i) λc aps apt=>?_;subst apt);clear i;have E:f≠m:=λq=>by
    rw[<-q,A]at p;exact bL (show af.aB "enumerate" =af.aB "bytearray" from bC aA.bj (ar.G.cF p)) aq
   show T9 Y R W A ne apF (PY apB apy m C b) ⟨eu,p⟩ (118 aps) (by simp[ne,E]) (λapp j=>?_) (λh2 w apr=> .ba b m _ _ apr.2 no apr.1 C) h;clear apF;(show gd j λc' t e1 My=>?_;try clear j;subst My);cases aps.bi.aV e1;exact .y ..
 |dS hk hr=>
  rename_i n;have e0:=ar.G.cF e0;cases apz:I.jP k n with
  |false=>rw[apz]at e0;exact nN e0
  |true=>
   rw[apz]at e0;have Mw:=I.sj.mp apz;cases ar.G.cF e0;show wpAny_pyNext_range_item hr bN λh2 apx hs=>h _ h2 (s.a1+1) λapw B apA=>?_;clear h;show Mr (s:=(350 h2 s.a1 1)) apx H aq (apA h2 (R.hR 46e4 (ng hs) _) (.y ..) (.dS Mw ?_) 56e0 (ng hs))
   ·have e1:49e1=(k:K)+1:=by exact I.BB.add_congr H H
    have e2:(n:K)-49e1=(n:K)-k-1:=bN;rw[e2,e1];exact apx
   ·rw[D.cZ.mp p];exact⟨_,_,_,apx,H,H,aq⟩
 |aR apC hz=>exact nomatch e0
universe e
section
variable{x:Fx}{J aC:aW}{F:MS}{s:ae}{h h':ai}
def Uc{bc:gT}{w:eB}{A:dg}{E:0e5}{e it:aI}{i:K}{h7:af}{Q:12e4->ae->Prop}(h:u8 s.M e it i h7)
  (done:∀(Q:0e5) (E:0e5),(∀h' e,ai.u7 it s.M h'->(∃o,42e7=0e4/\o.bj= 44e4)->E 9e6 35e9)->aY (bh bc w) A.fh (pr.tq 32e7) Q E s)
  (hQ:∀h',ai.u7 it s.M h'->158 L):41 (oD 9e6):=by
 have r:s.kK 9e6 "enumerate" :=(51 h);unfold oD;show bg (tm (389 r PySem.apu.agU
  (ny PySem.apu.agU r PySem.apu.entry_enumerate_next ?_ (PySem.apu.args_enumerate_next_1 _))))
 refine aY _ _ (ro 9e6 2>>=_) _ _ _;show cL (hH h H (x:= 32e7) H λn=>?_);show bg (done _ _ λh' x m a=>?_);(show aN a λo k p=>?_;try clear a);show bg (oC (apq:= "StopIteration") (b:=true) ⟨o,k,p⟩ P1 ?_);exact bX (hQ _ m)
def Ud{apy:aI}{wr:11e9}(s:apy∈wr)(hs:ai.u7 apy h h'):∀b o,b∉wr->h.ao b=0e4->11e8=0e4:=λb o x e=>hs b o (λq=>x (by rw[q];exact s)) e
def Mz{d:I}(Y:3e6)(R:0e9){k:I}{u:aI}{wr:11e9}(apq:j1 x J s.M it k u wr)(W:Wr x J s.M wr)(e0:32e4=G L){Q:12e4->ae->Prop}{EE:0e5}
  (h:∀h2 t,230 F (84 h2 t)->(∀b o,b∉wr->8e8=0e4->h2.ao b=0e4)->Q L (84 h2 t)):97 (oD (.N u)):=by
 have w:x.A.e9=L:=Y.e9;have P:x.A.fh.e9=L:=w;have eg:∀{apy:aI} {h2},apy∈wr->ai.u7 apy s.M h2->Q L {s with M:=h2}:=λz hs=>h _ s.a1 (R.hR 46e4 (Ud z hs) _) (Ud z hs);cases apq with
 |ej S=>
  cases S with
  |iN S=>
   show sQ (S.at R e0) λl c aP p r eu ne m v=>?_;exact wpAny_pyNext_list_end w eu p (by simpa using Mu r m) λh2 hs=>eg 28e4 hs
  |X l c aP _ _ p r eu ne=>
   have m:l[k]? =L:=ar.G.cF e0;exact PyProof.Rows.next_tuple_end w eu p (by simpa using Mu r m) λh2 hs=>eg 28e4 hs
 | @gM sc _ e apy h7 app S ne=>
  show aN (ar.hh.mp e0) λapw apA e0=>?_;rw[ar.agV]at e0;subst e0;have g:apy∈ [u,apy]:=54 28e4;cases S with
  |iN S=>
   show sQ (S.at R apA) λl c aP p r eu V m v=>?_;exact Uc app (λQ E i=>wpAny_nextOf_list_end P eu p (by simpa using Mu r m) i) λh2 hs=>eg g hs
  |ba b c _ _ p no eu V=>
   have m:(b.aj bB)[k]? =L:=ar.G.cF apA;rw[D.n4,ar.agV]at m;exact Uc app (λQ E i=>PW P eu p m i) λh2 hs=>eg g hs
 | @dS n _ _ j hr=>
  have e0:=ar.G.cF e0;cases f:I.jP k n with
  |true=>rw[f]at e0;exact apI e0
  |false=>
   have:¬k<n:=λq=>by rw[I.sj.bn q]at f;exact nG f
   exact wpAny_pyNext_range_end w hr bN λh2 hs=>eg 28e4 hs
 |aR apC hz=>exact apC.2.1 s Q EE (λv v v e=>e) (λv v e=>e) λh2 t j=>h h2 t (R.hR 46e4 j t) j
universe e
def agW{α β:Type}{x:Fx}{J:aW}{s:ae}{r:3e3}{f:α->MS->R β}{br:200 β γ}{Q:138 γ}{EE:0e5}(P:11 (ib 34e5)):11 ((ib r).aF λa F=>ib (f a F)):=by
 cases r with
 |aT a F ob=>
  refine 11 ((ib (f a F)).cj ob);have P:11 (ib ((f a F).cj ob)):=P;cases q:f a F with
  |aT=>rw[q]at P;exact P
  |a8=>rw[q]at P;exact P.ak
  |no=>rw[q]at P;exact P.ak
 |a8=>exact P.ak
 |no=>exact P.ak
def agX{α β:Type}{x:Fx}{J:aW}{s:ae}{r:3e3}{br:17e8}{Q:12e2}{EE:0e5}(P:11 (ib r)):27e7:=by
 cases r with
 |aT=>exact P
 |a8=>exact P.ak
 |no=>exact P.ak
def aH.MA{α β γ δ:Type}{x:Fx}{J aC:aW}{s s1:ae}{r:3e3}{f:α->MS->R γ}{br:17e8}{b:200 γ δ}{Q:12e2}{e:38e2}{EE:0e5}(P:100 34e5 b e)(p:71 aC s1.M)
  (apz:∀a du m2 h u,aK x (J++aC++m2) du h->Kp (J++aC) m2 x s1.M h.M->br (J++aC++m2) h.M a u->100 (f a du) b e->Q u h):aH x (J++aC) s1 r br Q EE:=by
 cases r with
 |aT a F ob=>exact⟨(26e9).1,λm2 s' u R apv r=>apz a F m2 s' u R apv r 26e3⟩
 |a8 a F ob=>
  have P:100 (.a8 a F ob:R γ) b e:=P;exact aH.qM (r:=(.a8 a F ob:3e3)) (br:=br) (Q:=Q) P p
 |no=>exact P.ak
def MD:Tg->Internal.apq
 | .n k=> .n k
 | .t l=> .t (l.aj .n)
def Ue:∀(l:0e1) (F:MS),l.i9 (λF p=>F.fw p.1 p.2) F=⟨F.O,vU F.T l,F.bG⟩
 | [],F=>rfl
 |p::l,F=>by
  rw[D.ME,Ue l];rfl
def agY{β γ:Type}{ih:Ih}{x:Fx}{J:aW}{s:ae}{k:I}{h:Tg}{v:V}{F:MS}{f:ez->MS->R β}{br:200 β γ}{Q:138 γ}{EE:0e5}(P:11 (ib ((pH F h v).aF f))):
  11 ((jQ ih (k+2) (MD h) v F).aF λa F=>ib (f a F)):=by
 cases h with
 |n m=>
  have P:11 (ib ((Internal.R.Y () (F.fw m v)).aF f)):=P;refine 11 ((Internal.R.Y () (F.fw m v)).aF λa F=>ib (f a F));rw[qY]at P⊢;exact P
 |t l=>
  cases v with
  |X vs=>
   refine 11 ((251 vs.U (55e6).U 105 (qF (jQ ih (k+1)) 55e6 vs F)).aF λa F=>ib (f a F));have P:11 (ib ((251 vs.U l.U 97 (.Y () ((l.fx vs).i9 (λF p=>F.fw p.1 p.2) F))).aF f)):=P;rw[D.fs];cases e:I.bZ vs.U l.U with
   |true=>
    rw[e]at P;have P:11 (ib ((R.Y () ((l.fx vs).i9 (λF p=>F.fw p.1 p.2) F)).aF f)):=P;refine 11 ((qF (jQ ih (k+1)) 55e6 vs F).aF λa F=>ib (f a F));rw[TY (vs:=vs) F (I.f0 e).bi,qY];rw[Ue,qY]at P;exact P
   |false=>rw[e]at P;exact P.ak
  |_=>exact P.ak
def JF(d:I)(p:cD)(apq:PySem.a0)(it:It)(k:I)(B:11e1)(F:MS)(r:2e9):Prop:=
 ∀(x:Fx) (dC aC:aW) (h s:ae) (Q:34e6) (EE:0e5) (b:aI) (wr:11e9),3e6->x.ab.bt=p->x.fz=false->pW 3e0 x.A x.ab EE->167 dC aC F s->56 dC x h.M s.M->
  j1 x (dC++aC) s.M it k b wr->Wr x (dC++aC) s.M wr->(∀a∈wr,h.M.ao a=L)->aH x dC h (ib r) RF Q EE->
  e8 3e0 x.A (.Mq apq (.N b) B [] x.ab) (367 f (zD 3e0 x.A x.ab EE e s')) s
def ui(F:MS)(s:Tg)(it:It)(k:I)(rb rl:MS->2e9):2e9:=gN 32e4 143 λo=>o.ak 24e8 λv=>(pH F s v).aF λh F=>(rb F).aF λr F=>rL r F (rl F)
section
variable{ih:Ih}{d k:I}{sc:cD}{F:MS}
def Ct{apq:PySem.a0}{app:Tg}{it:It}{B:11e1}{rb rl:MS->2e9}{kt:I}(aps:PA ih d sc (kt+2) apq (MD app))(apC:Cs it apq)(apB:∀aS,JB d sc B aS (rb aS))(apt:∀aS,JF d sc apq it (k+1) B aS (rl aS)):
  JF d sc apq it k B F (ui F app it k rb rl):=by
 intro x dC aC i s Q EE apA wr Y w hz m R apv T0 W fr P;show agT ?_;unfold ui at P;cases e0:it.at F k with
 |L=>rw[e0]at P;exact P.ak
 |G o=>
 rw[e0]at P;cases o with
 |L=>
  show Mz Y R T0 W e0 λh2 t b j=>?_;exact P.2 aC _ .bA b (apv.hR fr j) .bA
 |G v=>
  show Ub Y R T0 W e0 apC λu h1 t1 go=>go _ _ λh2 b r2 T2 apz j=>?_;have apu:56 dC x i.M h2:=apv.hR fr j;have apF:=agY (ih:=ih) (k:=kt) P;show eX (aps v F x _ (84 h2 t1) u _ EE Y w hz b r2 (apF.MA (s1:=(84 h2 t1)) apu λh st3 a apw h c g h P3=>?_)) (λh h z=>z) m;have P3:=agW P3;have E:Kp dC (aC++a) x i.M apw.M:=apu.aV g;rw[D.eP]at c;have PB:=P3.MA (Q:=λf n=>match f with
     | .bA| .zK=>e8 3e0 x.A (.Mq apq (.N apA) B [] x.ab) (367 f (zD 3e0 x.A x.ab EE e s')) n
     | .brk=>Q .bA n
     | .bk v=>Q (.bk v) n) (br:=RF) E λr apy p l u4 q apE r4 apr=>?_
  ·exact eX (apB st3 x _ apw _ EE Y w hz m c (agX PB)) (λh h z=>z) m
  ·have V:=E.aV apE;rw[D.eP]at q;cases r4 with
   |next=>
    have C:Kp (dC++aC) (a++p) x h2 l.M:=g.aV (by rw[D.eP];exact apE);have S:=apz.km b H C;have apx:=T2.km (b.eI C) S.2;have e:dC++aC++(a++p)=dC++(aC++a++p):=by simp only[D.eP]
    show apt apy x dC (aC++a++p) i l Q EE apA wr Y w hz m q V (e▸apx) (e▸S.1) fr apr
   |bk apD=>exact apr.2 (aC++a++p) l _ q V (.bk (by rw[D.eP]at apD;exact apD))
universe e
inductive mK (x:Fx) (h0:ai) (J:aW) (h:ai):It->af->Prop
 |ad (l ax aP):h.gY ax ⟨aP⟩->¬cy J ax->cx J h l aP->mK x h0 J h (.ej (.fB l)) (.N ax)
 |X (l ax aP):jm h ax ⟨aP⟩->cx J h l aP->mK x h0 J h (.ej (.fB l)) (.N ax)
 |j8 (i p aP):J[i]? =G p->h.gY p.1 ⟨aP⟩->mK x h0 J h (.ej (.j8 i)) (.N p.1)
 |gM (s e apy h7):u8 h e apy 0 h7->sA J h e s 0 apy->e≠apy->Wr x J h [e,apy]->(∀a∈ [e,apy],h0.ao a=L)->mK x h0 J h (.gM s) (.N e)
 |dS (n r t u v):IsRange h r 0 (n:I) 1 t u v->n<=16777216->mK x h0 J h (.dS n) (.N r)
 |aR (z wr):T8 (bd x) x.A h z wr->z∈wr->Wr x J h wr->(∀a∈wr,h0.ao a=L)->(∀(s:ae) (Q:af->ae->Prop) (E:af->ae->Prop),s.M=h->Q (.N z) s->aY (bd x) x.A (qv (.N z)) Q E s)->mK x h0 J h .aR (.N z)
section
variable{x:Fx}{J dC aC:aW}{F:MS}{s:ae}{h0 h':ai}
def aK.j0(R:0e9):lx<=s.M.O.an:=351 (R.hM _ 2e6) (R.m9 _ 2e6)
def aK.yH(R:0e9)(h:342 a)(e:18e4=0e4)(hd:o.bf= 27e1)(p:o.bj= .aB n)(r:n≠ "code"):o6 x J h' a/\∃o,18e4=0e4:=
 ⟨⟨λq=>31 (R.up a q) h,λq=>31 (R.m9 a q) h,λq=>31 (R.tW a q) h,I.dV R.j0 h,λo' b=>by rw[e]at b;cases b;exact T7 hd p r⟩,o,e⟩
def uj(apv:56 dC x h0 s.M)(h:342 a):46e3=L:=by
 cases q:h0.ao a with
 |L=>rfl
 |G o=>
  show oE (apv.g7 a o q) λo' e=>?_;exact 31 9e1 h
def agZ{n:I}(h:106 n):Builtin.ul.small 0 n 1=true/\Builtin.ul.MF 0 n 1=n:=by
 have hs:Builtin.ul.MF 0 n 1=n:=by
  unfold Builtin.ul.MF;rw[eY aq];split
  ·rw[K.ediv_one];exact K.ag0 (↑n-0) 1
  ·lia
 show⟨?_,hs⟩;have s:∀i:K,0<=i->i<=16777217->Builtin.ul.ag1 i=true:=by
  intro i h1 h2;unfold Builtin.ul.ag1;rw[al.lg,BP,BP];lia
 unfold Builtin.ul.small;rw[hs,s 0 (394 0) (394 16777217),s n (by exact K.nU n) bN,s 1 (by exact K.one_nonneg) (by exact K.le.intro_sub (16777217-I.hI 0) H),eY aq,s (n+(1-1)) (394 (n+(1-I.hI 0))) bN];simp
def Uf{u:af}(R:0e9)(apv:56 dC x h0 s.M)(r:mK x h0 J s.M it u){Q:0e5}{EE:0e5}
  (h:∀q wr h2 t,230 F (84 h2 t)->71 [] h2->j1 x J h2 it 0 q wr->Wr x J h2 wr->(∀a∈wr,46e3=L)->Q (.N q) (84 h2 t)):97 (qv u):=by
 have up:∀a,a<s.M.O.an->a≠s.M.O.an:=λa h=>I.iq h;have ej:∀(o:aA) (n:fH) (vs:16e5),o.bj= .aB n->n≠ "code" ->o.bf= 27e1->o.DQ=false->(j1 x J (s.M.b6 o) it 0 s.M.O.an 39e7)->Q 9e9 (281 o):=by
  intro o n vs d k hd f m;have E:=R.ext (jY o) (vI o) s.a1;show h _ 39e7 _ s.a1 E.1 E.2 m (λa b=>?_) λa b=>?_
  ·rw[D.cZ.mp b];exact R.yH 11e7 (ai.fG _ f) hd d k
  ·rw[D.cZ.mp b];exact uj apv 11e7
 cases r with
 |ad l w aP b no r=>
  show AK b (ej _ _ _ H aq H H (.ej (.iN (.ad l w aP _ _ (b.b6 _) no (hN (je (jY _)) r) ⟨_,10e0,H,H⟩ ?_))));(show aN b λo e c=>?_;try clear b);exact up _ 9e1
 |X l w aP b r=>
  show PyProof.Rows.iter_tuple b (ej _ _ _ H aq H H (.ej (.X l w aP _ _ (b.b6 _) (hN (je (jY _)) r) ⟨_,10e0,H,H⟩ ?_)));exact up _ b.lt
 |j8 i p aP app b=>
  show AK b (ej _ _ _ H aq H H (.ej (.iN (.j8 i p _ _ app ⟨_,10e0,H,H⟩ ?_))));(show aN b λo e c=>?_;try clear b);exact up _ 9e1
 |gM sc e apy h7 j S ne W fr=>exact ag2 j (h e [e,apy] s.M s.a1 R (Kp.b8 ..) (.gM j S ne) W fr)
 |dS n r t u v hr k=>
  show oA (agZ k) λh1 h2=>?_;show wpAny_pyIter_range hr h1 (ej _ _ _ H aq H H (.dS 31e7 ?_));have:=ai.fG s.M (o:=(330 "range_iterator" #[iE 0,iE (Builtin.ul.MF 0 n 1),iE 1])) H;rw[h2]at bb⊢;have e:(n:K)-((0:I):K)=n:=bN;rw[e];exact bb
 |aR z wr apC hz W fr m=>exact m s Q EE H (h z wr s.M s.a1 R (Kp.b8 ..) (.aR apC hz) W fr)
universe e
def PI(ih:Ih)(d:I)(h:cD)(E:PySem.a0)(e:apw):Prop:=∀(F:MS) (x:Fx) (J:aW) (s:ae) (Q:0e5) (EE:0e5),3e6->x.ab.bt=h->0e9->64 (tC ih e F) (mK x s.M)->
  26 27e8
def aH.yI{α β γ δ:Type}{x:Fx}{J:aW}{s:ae}{r:3e3}{f:α->MS->R γ}{br:17e8}{e:200 γ δ}{Q:12e2}{h:38e2}{EE:0e5}(P:100 34e5 e h)
  (apz:∀a aS aC s1 u,294 aS s1->71 aC s1.M->br (J++aC) s1.M a u->100 (f a aS) e h->Q u s1):27e7:=by
 cases r with
 |aT a F ob=>exact⟨(26e9).1,λaC s' u R apv r=>apz a F aC s' u R apv r 26e3⟩
 |a8 a F ob=>exact P
 |no=>exact P.ak
def aH.Ug{ih:Ih}{a:apw}{F:MS}{x:Fx}{J:aW}{s:ae}{Q:0e5}{e:2e5->ae->Prop}{EE:0e5}(P:10 (ck ih a F))(h:∀v u s1,RV J s1.M v u\/kx->Q u s1->e [u] s1):
  100 (ke ih [a] F) (pU 1) e:=by
 refine 100 (30e1 (395 [v])) (pU 1) e;generalize ck ih a F=r at P⊢;cases r with
 |aT v aS ob=>
  refine 100 (.aT [v] aS (ob++([]++[]))) (pU 1) e;rw[D.dZ,D.dZ];show⟨P.1,λaC s' us R apv r=>?_⟩;obtain⟨r,_⟩:=r;cases r with
  |aQ r b=>
   cases b;exact h v _ s' (.aE d2) (P.2 aC s' _ R apv r)
 |a8 i aS ob=>exact P
 |no=>exact P.ak
section
variable{ih:Ih}{d:I}{sc:cD}
def ag3(h:PX ih d sc E e)(u:∀F,tC ih e F=132 13e9 (gN (srcOf v F) 103 λl=> 7 (.ej l))):PI ih d sc E e:=by
 intro F x J s Q EE Y j R P;rw[u]at P;show h F x J s _ EE Y j R (P.aF λv aS apA s1 u1 k S r1 r=>?_);show eE r λl q r=>?_;cases r1 with
 |X m a aP b app n=>cases ar.G.cF q;exact r.fL k (.X _ a aP b n)
 |ad m t a aP b no app n=>cases ar.G.cF q;exact r.fL k (.ad _ a aP b no n)
 |Z i p w=>
  (show aN (ar.hh.mp q) λm f g=>?_;subst g);show aN (ar.la.mp f) λo c z=>?_;show aN (aps.vE z (k.O i _ p c w)) λaP b apq=>?_;exact r.fL k (.j8 i p aP w b.iI)
 |_=>exact nN q
def Uh{A:PySem.a0}{a:apw}{id:am}{p aU:dA}{k:I}{apq:fH}(h:kU ih d sc A a)(e:hy id k=true)(h2:ew sc id .lB=true)(w:19 gl=G (.aa 42e6))
  {F:MS} {x:Fx} {J:aW} {s:ae} {Q:0e5} {EE:0e5} (Y:3e6) (n5:44e2) (R:0e9) (P:100 (ck ih a F) RV (λu s1=>283 (aX 42e6 [u]) s1)):
  26 (233 (.jT (174 p) [A] [] aU)):=by
 rw[Cu];show aZ (yk (d:=d) (F:=F) (aU:=p) e h2 x J s _ EE Y n5 R ?_);unfold mI;rw[w];refine 100 (125 (.aa 42e6) F) RV _;show⟨λq h=>(nomatch h),λaC s' u b n r=>?_⟩;cases r;have m:=P.qM n;show ue (Ch (266 h)) (vL (266 h) F x _ s' _ EE Y n5 b ?_);show aH.Ug m λv u s1 r1 e=>⟨⟨.ud,15e6,.qW H⟩,e⟩
def ag4{A:PySem.a0}{a:apw}{id:am}{p aU:dA}(h:kU ih d sc A a)(apu:hy id 44=true)(h2:ew sc id .lB=true):PI ih d sc (.jT (174 p) [A] [] aU) (170 44 [a]):=by
 intro F x J s Q EE Y B R P;have P:64 (132 30e1 (gN (Qs v F) 100 λl=> 7 (.gM l))) (mK x s.M):=P;show Uh (apq:= "enumerate") h apu h2 cI Y B R (P.yI λv aS g s1 u1 app z r1 j=>?_);show eE j λl q j=>?_
 ·have j:∀aC s' u,207 aS->38e5->mK x s.M (J++aC) s'.M (.gM l) u->Q u s':=j.2;have eg:∀(h2:ai),u8 h2 (s1.M.O.an+1) s1.M.O.an 0 .L->sA (J++g) h2 (s1.M.O.an+1) l 0 s1.M.O.an->(∀b o,s1.M.ao b=0e4->h2.ao b=0e4)->Q (.N (s1.M.O.an+1)) {s1 with M:=h2}:=by
   intro h2 w S k;have E:=app.jy k s1.a1;show j g _ _ E.1 (by have:=z.aV E.2;rw[D.dZ]at bb;exact bb) (.gM l _ _ _ w S (I.vc 40e5) (λa r=>?_) λa r=>?_)
   ·rcases 48e6 with H|r
    ·exact app.yH 37e8 w H H aq
    ·rw[44e9];show k7 S.Z λo vs n e apE c W=>?_;exact app.yH 11e7 e apE c W
   ·rcases 48e6 with H|r
    ·exact uj z 37e8
    ·rw[44e9];exact uj z 11e7
  cases r1 with
  |ad m t a aP r no apy C=>
   cases ar.G.cF q;show aM.of (ag5 r λh2 w f hz k=>eg h2 w (.iN (.ad _ a aP _ _ (r.at (k _)) no (hN (je k) C) f ?_)) k);(show aN r λo e apA=>?_;try clear r);exact 41e9
  |ei b a r no apF=>
   cases ar.G.cF q;exact aM.of (ack r λh2 w f hz k=>eg h2 w (.ba _ a _ _ (k _ _ r) no f (299 r)) k)
  |Z i p V=>
   (show aN (ar.hh.mp q) λm apD apz=>?_;subst apz);show aN (ar.la.mp apD) λo apx apr=>?_;show aN (aps.vE apr (app.O i _ p apx V)) λaP r apA=>?_;have r:=r.iI;show aM.of (ag5 r λh2 w f hz k=>eg h2 w (.iN (.j8 i p _ _ V f ?_)) k);(show aN r λo e apA=>?_;try clear r);exact 41e9
  |_=>exact nN q
def ag6{A:PySem.a0}{a:apw}{id:am}{p aU:dA}(h:kU ih d sc A a)(w:hy id 57=true)(h2:ew sc id .lB=true):PI ih d sc (.jT (174 p) [A] [] aU) (170 57 [a]):=by
 intro F x J s Q EE Y m R P;have P:64 (132 30e1 (gI v 101 λn t=>(oQ (decide (0<=n/\n<=16777216)) t F).aF λl F=> 7 (.dS n.aJ))) (mK x s.M):=P;show Uh (apq:= "range") h w h2 cI Y m R (P.yI λv aS j s1 u1 i k r1 b=>?_)
 ·show m8 r1 b λn t tk b=>?_
  ·show oA (tY b) λr b=>?_;have r:=fq r;have b:∀aC s' u,207 aS->38e5->mK x s.M (J++aC) s'.M (.dS n.aJ) u->Q u s':=b.2;show aM.of (call_range_1 ?_);have q:=jY (h:=s1.M) (330 "range" #[.y 0 s1.a1,.y n tk,.y 1 (s1.a1+1)]);have E:=i.jy q (s1.a1+1+1);show b j _ _ E.1 (by have:=k.aV E.2;rw[D.dZ]at bb;exact bb) (.dS _ _ s1.a1 tk (s1.a1+1) ?_ bN);have e:((n.aJ:I):K)=n:=K.um r.1;rw[e];exact 10e0
def ag7{apq apy:PySem.a0}{i:apw}{e:Tg}{B:11e1}{aU:dA}{F:MS}{rl:It->MS->2e9}(k:PI ih d sc apy i)(hs:∀ab x,u9 apy ab x=b9 x)(w:∀it aS,oR it e=true->JF d sc apq it 0 B aS (rl it aS)):
  JS d sc (.For apq apy B [] aU) F ((tC ih i F).aF λit F=>gB (oR it e) 156 (ib (rl it F))):=by
 intro x J s Q EE Y b hz v R P;show 23 (arm_exec_For ..);show 25e5;show aZ (k F x J s _ EE Y b R (P.yI λit aS r s1 u1 j a r1 h=>?_));show fV h λu h=>?_
 ·rw[hs];show 182 (44 (184 (Uf j a r1 λp wr h2 t l m T2 q fr=>?_)));show 55e7;rw[wC];have n:71 r h2:=by have:=a.aV m;rw[D.dZ]at bb;exact bb
  exact w it aS u x J r s (375 h2 t) Q EE p wr Y b hz v l n T2 q fr h
universe e
def l4(b3:29e1):284 hD->29e1->29e1
 | [],cP=>cP
 |(n,k)::r,cP=>if k== .eH then l4 b3 r ((n,(b3.bY n).ge 0)::cP)else l4 b3 r cP
def Cv(b3:29e1)(n:am)(k:hD)(r:284 hD)(cP:29e1):l4 b3 ((n,k)::r) cP=if(k== .eH)=true then l4 b3 r ((n,(b3.bY n).ge 0)::cP)else l4 b3 r cP:=H
def MG(h:∀p∈bt.bq,p.2= .eH->(378 p.1)=true):AD bt ab=b9 (l4 ab.b3 bt.bq []):=by
 unfold AD;have cR:∀(bq:284 hD) (cP:29e1),(∀p∈bq,p.2= .eH->(378 p.1)=true)->
   (forIn bq cP (λ(x:am×hD) (r:D (am×aI))=>match x with
    |(gf,d9)=>if(d9== .eH)=true then do let c<-Ui ab gf;b9 (xb.uI ((gf,c)::r))else b9 (xb.uI r)):b5 29e1)=b9 (l4 ab.b3 bq cP):=by
  intro bq;induction bq with
  |aR=>intro cP _;rfl
  |aQ p r ih=>
   intro cP a;obtain⟨n,k⟩:=p;have b:=λcP=>ih cP λq v=>a q (54 v);rw[D.AM];dsimp only;rw[Cv];by_cases s:(k==hD.eH)=true
   ·rw[eY s,eY s];have hs:=a (n,k) (D.dQ ..) (jx s);show oE (ar.mV.mp hs) λc e=>?_;have m:Ui ab n=b9 c:=by unfold Ui;rw[e]
    rw[m];simp only[Uj];rw[b,e];rfl
   ·rw[d6 s,d6 s];simp only[Uj];exact b cP
 exact(by simpa using cR bt.bq [] h)
def Uk:∀{cP:29e1},(bq.aj (·.1)).dX->(l4 b3 bq cP).bY n=if bq.bY n=23e5 then G ((b3.bY n).ge 0)else cP.bY n:=by
 induction bq with
 |aR=>exact λa=>rfl
 |aQ p r h=>
  obtain⟨m,k⟩:=p;intro cP nd;show oA (D.jf.mp nd) λh1 h2=>?_;clear nd;have ih:=λcP=>h (cP:=cP) h2;clear h;rw[Cv,D.lE];by_cases e:n=m
  ·subst e;have hr:r.bY n=L:=by
    cases q:r.bY n with
    |L=>rfl
    |G b=>exact bL (D.oz (f:=(·.1)) (nf q)) h1
   clear h1;rw[vQ];by_cases s:(k==hD.eH)=true
   ·rw[eY s,ih,hr,jx s,D.lE,vQ];simp
   ·rw[d6 s,ih,hr];have:¬(G k=G hD.eH):=λq=>s (by cases q;rfl);rw[d6 bb];simp
  ·have x:(n==m)=false:=se.bn e;rw[x];split
   ·rw[ih,D.lE,x]
   ·rw[ih]
def ag8:∀{cP:29e1},p∈l4 b3 bq cP->p∈cP\/(p.1,hD.eH)∈bq/\p.2=(b3.bY p.1).ge 0:=by
 induction bq with
 |aR=>exact λh=> 25e7
 |aQ q r s=>
  obtain⟨m,k⟩:=q;intro cP h;rw[Cv]at h;split at h
  ·rename_i x;rcases s h with h|h
   ·rcases D.eS.mp h with e|h
    ·subst e;exact .aE ⟨by rw[jx x];exact D.dQ ..,H⟩
    ·exact 25e7
   ·exact .aE ⟨54 h.1,h.2⟩
  ·rcases s h with h|h
   ·exact 25e7
   ·exact .aE ⟨54 h.1,h.2⟩
def Ul:∀{cP:29e1},(bq.aj (·.1)).dX->(cP.aj (·.1)).dX->(∀n,n∈bq.aj (·.1)->n∉cP.aj (·.1))->((l4 b3 bq cP).aj (·.1)).dX:=by
 induction bq with
 |aR=>exact λv h v=>h
 |aQ p r x=>
  obtain⟨m,k⟩:=p;intro cP h1 h2 h3;show oA (D.jf.mp h1) λb a=>?_;rw[Cv];split
  ·show x a (D.jf.bn ⟨h3 _ (D.dQ ..),h2⟩) λn s hm=>?_;rcases D.eS.mp hm with e|e
   ·exact b (e▸s)
   ·exact h3 n (54 s) e
  ·exact x a h2 λn s=>h3 n (54 s)
def ag9{α β:Type}{l:D (α×β)}:(l.aj (·.1)).dX->(∀n m c,(n,c)∈l->(m,c)∈l->n=m)->(l.aj (·.2)).dX:=by
 induction l with
 |aR=>exact λr r=>D.kS
 |aQ p l x=>
  intro nd h;show oA (D.jf.mp nd) λh1 h2=>?_;show D.jf.bn ⟨λhm=>?_,x h2 λn m c a b=>h n m c (54 a) (54 b)⟩;show aN (D.sr.mp hm) λq s e=>?_;have e:q.2=p.2:=e;have bb:p.1=q.1:=h p.1 q.1 p.2 (D.dQ ..) (54 (by rw[<-e];exact s));show h1 ?_;refine p.1∈_;rw[bb];exact D.oz (f:=(·.1)) s
def qc(h s:cD):cD:=
 {h with bq:=h.bq.aj λ(n,k)=>if(k== .eH&&s.d9== .jL&&s.bq.bY n==18e8)then(n,.dm)else(n,k)}
def aha(h:ab.bt=sc):rH cs ab=qc cs sc:=by
 subst h;rfl
def ahb(k:I):5e5≠33e9:=by
 unfold nm;intro h;cases q:qJ[k]? with
 |L=>
  rw[q]at h;have h:=bC am.cps h;have:(#[2000000+k]:bP I)= #[46,48]:=h;have:=bC bP.an bb;cases bb
 |G x=>
  rw[q]at h;have e:qJ.dM (λs=>!(s==33e9))=true:=by decide+ci
  have:=D.iw.mp e x (D.jc q);have h:x=33e9:=h;rw[h]at bb;revert bb;decide+ci
def ahc{α β:Type}(g:am->α->β)(l:284 α):(321 (p.1,g p.1 p.2)).bY n=(l.bY n).aj (g n):=by
 induction l with
 |aR=>rfl
 |aQ p l s=>
  obtain⟨m,k⟩:=p;rw[D.nZ,D.lE,D.lE];by_cases e:n=m
  ·subst e;simp
  ·have h:(n==m)=false:=se.bn e;rw[h];exact s
def Um:(qc cs sc).bq.bY n=(cs.bq.bY n).aj λk=>if(k== .eH&&sc.d9== .jL&&sc.bq.bY n==18e8)then hD.dm else k:=by
 have s:(λ(x:am×hD)=>match x with|(n,k)=>if(k==hD.eH&&sc.d9==Un.jL&&sc.bq.bY n==G hD.dm)then(n,hD.dm)else(n,k))=
   λp=>(p.1,(λ(n:am) (k:hD)=>if(k==hD.eH&&sc.d9==Un.jL&&sc.bq.bY n==G hD.dm)then hD.dm else k) p.1 p.2):=by
  funext p;obtain⟨n,k⟩:=p;dsimp only;split<;>rfl
 refine(cs.bq.aj _).bY n=_;rw[s];exact ahc (λ(n:am) (k:hD)=>if(k==hD.eH&&sc.d9==Un.jL&&sc.bq.bY n==G hD.dm)then hD.dm else k) cs.bq
def Uo:19 (qE m T)=2e4->19e1=2e4/\k≠m:=by
 induction T with
 |aR=>exact λh=>by cases h
 |aQ p T s=>
  intro h;have h:19 (142 p.1 m (qE m T) (p::qE m T))=2e4:=h;rw[nT];cases q:I.bZ p.1 m with
  |true=>
   rw[q]at h;show oA (s h) λa b=>?_;have:341 k=false:=by
    cases z:I.bZ p.1 k with
    |false=>rfl
    |true=>exact bL ((I.f0 z).bi.aV 42e5) b
   rw[bb];exact⟨a,b⟩
  |false=>
   rw[q]at h;have h:19 (p::qE m T)=2e4:=h;rw[nT]at h;cases z:I.bZ p.1 k with
   |true=>
    rw[z]at h;show⟨h,λe=>?_⟩;rw[e]at z;rw[z]at q;cases q
   |false=>
    rw[z]at h;clear z;show oA (s h) λa b=>?_;exact⟨a,b⟩
def ahd(s h:cD)(apt:aI)(ab:eA):eA:=
 {bt:=qc s h,cY:=apt,ha:=ab.ha,b3:=l4 ab.b3 s.bq [],px:=ab.px,ml:=L,dI:=ab.dI,ec:=ab.ec,jE:=ab.jE}
def nh(x:Fx)(h s:cD)(apt:aI):Fx:=⟨x.w,x.A,ahd h s apt x.ab,x.os,true⟩
def MH:Tg->D I
 | .n k=>[k]
 | .t l=>l
def Up(h:19 (xF tg T)=2e4):19e1=2e4/\k∉MH tg:=by
 cases tg with
 |n m=>
  show oA (Uo h) λa b=>?_;exact⟨a,λq=>b 52e7⟩
 |t l=>
  have cR:∀(l:D I) (T:0e1),19 (l.i9 (λT k=>qE k T) T)=2e4->19e1=2e4/\k∉l:=by
   intro l;induction l with
   |aR=>exact λT h=>⟨h,λq=>nomatch q⟩
   |aQ m l ih=>
    intro T h;show oA (ih _ h) λa b=>?_;show oA (Uo a) λa c=>?_;exact⟨a,λq=>(D.eS.mp q).ak c b⟩
  exact cR l T h
structure un(cs sc:cD)(tg:Tg):Prop where
 d9:cs.d9= .jL
 nd:(cs.bq.aj (·.1)).dX
 T:∀n,cs.bq.bY n=G .cV->(∃k∈MH tg,n=nm k)\/n=(".0" :am)
 eH:∀n,(n,hD.eH)∈cs.bq->sc.bq.bY n=G .dm\/sc.bq.bY n=G .eH
 MI:∀n,cs.bq.bY n≠G .dm
 dot:cs.bq.bY (".0" :am)=G .cV
def MJ{α:Type}{l:284 α}(s:(l.aj (·.1)).dX){n:am}{k:α}(h:(n,k)∈l):l.bY n=G k:=by
 induction l with
 |aR=>cases h
 |aQ p r ih=>
  obtain⟨m,d⟩:=p;show oA (D.jf.mp s) λh1 h2=>?_;clear s;rw[D.lE];rcases D.eS.mp h with e|e
  ·cases e;simp
  ·have:n≠m:=λx=>h1 (x▸D.oz (f:=(·.1)) e);clear h1 h;have a:(n==m)=false:=se.bn bb;rw[a];exact ih h2 e
section
variable{x:Fx}{J aC:aW}{F bR:MS}{s s1 s':ae}{cs sc:cD}{m:Tg}{d:I}{apt:aI}
def yJ{k2:hD}{n:am}(h:(nh x cs sc apt).ab.dB n=G k2):∃k,cs.bq.bY n=G k/\(k2=k\/(k= .eH/\k2= .dm)):=by
 have h:(qc cs sc).bq.bY n=G k2:=h;rw[Um]at h;show aN (ar.hh.mp h) λk s e=>?_;show⟨k,s,?_⟩;split at e
 ·rename_i c;simp only[al.lg,AB]at c;exact .aE ⟨c.1.1,e.bi⟩
 ·exact .a4 e.bi
def ahe(apC:un cs sc m)(Y:3e6)(v:44e2):(nh x cs sc apt).Ok d:=by
 show aN Y.dY λl r b=>?_;show⟨apC.d9,Y.vA,Y.jP,λn h=>?_,Y.g9,Y.jd,Y.e9,Y.j7,⟨l,r,λq=>nG q⟩,λb=>?_⟩
 ·refine((l4 x.ab.b3 cs.bq []).bY n).ir=true;rw[Uk apC.nd];have p:cs.bq.bY n=23e5:=by
   rcases h with h|h
   ·(show aN (yJ h) λk s a=>?_;rcases a with e|⟨e,_⟩)
    ·exact bL (e▸s) (apC.MI n)
    ·rw[s,e]
   ·(show aN (yJ h) λk s a=>?_;rcases a with e|⟨_,e⟩)
    ·rw[s,<-e]
    ·cases e
  rw[eY p];rfl
 ·refine(qc cs sc).bq.bY 33e9=12e3;rw[Um,apC.dot];rfl
def aK.ahf(apC:un cs sc m)(Y:3e6)(apA:44e2)(hz:x.fz=false)(R:0e9){f:ai}(hL:apt=s.M.O.an)(B:f.Ns apt (λapp=>L))(P:386 4e4 (f.ao a))(t:I):
  aK (nh x cs sc apt) J ⟨F.O,xF m F.T,F.bG⟩ (84 f t):=by
 have i:=(R.jy P t).1;have MK:∀n c,(n,c)∈(nh x cs sc apt).ab.b3->(n,c)∈x.ab.b3:=by
  intro n c h;rcases ag8 (p:=(n,c)) h with h|⟨hm,e⟩
  ·cases h
  ·have P:x.ab.dB n=18e8\/x.ab.dB n=23e5:=by
    unfold eA.dB;rw[apA];exact apC.eH n hm
   show oE (ar.mV.mp (Y.vB n P)) λE apq=>?_;have e:c=(x.ab.b3.bY n).ge 0:=e;rw[apq]at e;have e:c=E:=e;rw[e];exact nf apq
 have A:∀n c,(n,c)∈x.ab.b3->c<s.M.O.an:=by
  intro n c h;show gd (R.hw hz n c h) λw o e app=>?_;exact 9e1
 show⟨i.d8,i.cU,i.O,i.nd,i.gz,i.up,⟨⟨_,B,λk v a b=>?_⟩,λk v a b=>?_⟩,λa g W=>?_,λa g=>?_,⟨?_,?_,λn apE=>?_⟩,(λq=>nG q),i.gD,i.fy,i.dD,i.os,i.cW⟩
 ·show oA (Up b) λV apD=>?_;(show aN (yJ a) λS l z=>?_;rcases z with e|⟨_,e⟩)
  ·rcases apC.T _ (e▸l)with⟨j,C,e⟩|e
   ·exact bL (r7 e▸C) apD
   ·exact bL e (ahb k)
  ·cases e
 ·show oA (Up b) λV apD=>?_;have apw:cs.bq.bY 5e5=23e5:=by
   rcases a with h|h
   ·(show aN (yJ h) λS l z=>?_;rcases z with e|⟨e,_⟩)
    ·exact bL (e▸l) (apC.MI _)
    ·rw[l,e]
   ·(show aN (yJ h) λS l z=>?_;rcases z with e|⟨_,e⟩)
    ·rw[l,<-e]
    ·cases e
  have apr:41e5=18e8\/41e5=23e5:=by
   unfold eA.dB;rw[apA];exact apC.eH _ (nf apw)
  obtain(⟨c,u,e1,e2,r,no⟩):=i.bq.eV k v apr V;show⟨c,u,?_,e2,r,no⟩;refine(l4 x.ab.b3 cs.bq []).bY 5e5=G c;rw[Uk apC.nd,eY apw,e1];rfl
 ·rcases g with e|⟨q,_⟩
  ·have:a=s.M.O.an:=e.aV hL;rw[bb]at W;exact 293 (R.up _ W)
  ·cases q
 ·rcases g with e|⟨q,_⟩
  ·have:a=s.M.O.an:=e.aV hL;rw[bb];exact R.j0
  ·cases q
 ·show ag9 (Ul apC.nd D.kS λapp app h=>nomatch h) λn m' c a b=>?_;exact Md R.b3.1 (MK n c a) (MK m' c b)
 ·exact Ul apC.nd D.kS λapp app h=>nomatch h
 ·have f:=A n _ (MK n _ apE);have:(nh x cs sc apt).ab.cY=s.M.O.an:=hL;rw[bb]at f;exact 293 f
universe e
structure lF(wr:D aI)(J aC:aW)(x:Fx)(h h':ai):Prop where
 bS:∀a o,a∉wr->h.ao a=G o->ix o=false->¬FA x a->¬fr x a->¬cy J a->h'.ao a=G o
 ju:∀a o,a∉wr->h.ao a=G o->FA x a->¬fr x a->∃o',h'.ao a=G o'/\o'.bj=o.bj/\o'.bf=o.bf
 iW:∀a o,a∉wr->h.ao a=G o->ix o=true->a≠lY->h'.ao a=G o
 g7:∀a o,a∉wr->h.ao a=G o->∃o',h'.ao a=G o'
 fm:∀a,cy aC a->h.ao a=L
section
variable{wr:D aI}{J aC m2:aW}{x:Fx}{h h1 h2:ai}
def lF.b8:lF wr J [] x h h:=⟨λs s s e s s s s=>e,λs o s e s s=>⟨o,e,H,H⟩,λa o s e s s=>e,λa o s e=>⟨o,e⟩,(by intro a b;(show aN b λp r s=>?_;try clear b);exact nomatch r)⟩
def lF.aV(a:lF wr J aC x h h1)(b:Kp (J++aC) m2 x h1 h2)(r:∀a∈wr,¬69 m2):lF wr J (aC++m2) x h h2:=by
 show⟨λc o w e t f hL s=>b.bS c o (a.bS c o w e t f hL s) t f hL λq=>?_,λc o w e f hL=>?_,λc o w e t n=>b.iW c o (a.iW c o w e t n) t n,λc o w e=>?_,λc p=>?_⟩
 ·rcases 46e2 with q|q
  ·exact s q
  ·exact 225 (a.fm c q) e
 ·show dU (a.ju c o w e f hL) λo1 e1 c1 d1=>?_;show dU (b.ju c o1 e1 f hL) λo2 e2 c2 m=>?_;exact⟨o2,e2,c2.aV c1,m.aV d1⟩
 ·show oE (a.g7 c o w e) λo1 e1=>?_;exact b.g7 c o1 e1
 ·rcases jv.mp p with q|q
  ·exact a.fm c q
  ·cases k:h.ao c with
   |L=>rfl
   |G o=>
    show oE (a.g7 c o (λw=>r c w q) k) λo1 e1=>?_;exact 225 (b.fm c q) e1
def lF.hR(apv:lF wr J aC x h h1)(s:∀b o,b∉wr->h1.ao b=0e4->h2.ao b=0e4):lF wr J aC x h h2:=by
 show⟨λa o w e t f g p=>s a o w (apv.bS a o w e t f g p),λa o w e f g=>?_,λa o w e t n=>s a o w (apv.iW a o w e t n),λa o w e=>?_,apv.fm⟩
 ·show aN (apv.ju a o w e f g) λo' e1 r=>?_;exact⟨o',s a o' w e1,r⟩
 ·show oE (apv.g7 a o w e) λo' e1=>?_;exact⟨o',s a o' w e1⟩
universe e
def l5(wr:11e9)(x:Fx)(J:aW)(h:ai)(r:2e9)(Q:154 ae):Prop:=match r with
 | .aT (.f .bA) F ob=>51e9/\∀aC s',207 F->lF wr J aC x h s'.M->Q s'
 |_=>fT
section
variable{wr:D aI}{J aC m2:aW}{x:Fx}{h h1:ai}{s s1:ae}{Q:ae->Prop}{EE:af->ae->Prop}{α β:Type}
def l5.ob{a:α}{F:MS}{ob:D Ob}{f:α->MS->2e9}(P:l5 wr x J h ((R.aT a F ob).aF f) Q):51e9/\l5 wr x J h (f a F) Q:=by
 have P:l5 wr x J h ((f a F).cj ob) Q:=P;cases q:f a F with
 |aT b du mo=>
  rw[q]at P;have P:l5 wr x J h (.aT b du (ob++mo)) Q:=P;cases b with
  |f fl=>
   cases fl with
   |next=>exact i4.nr (λp s=>P.1 p (D.w3 _ s)) (i4.nr (λp s=>P.1 p (D.uP _ s)) P.2)
   |_=>exact P.ak
  |_=>exact P.ak
 |a8=>rw[q]at P;exact P.ak
 |no=>rw[q]at P;exact P.ak
def l5.aF{f:α->MS->2e9}{br:17e8}{e:12e2}(P:l5 wr x J h 34e5 Q)
  (apz:∀a du m2 s u,aK x (J++aC++m2) du s->Kp (J++aC) m2 x s1.M s.M->br (J++aC++m2) s.M a u->l5 wr x J h (f a du) Q->e u s):aH x (J++aC) s1 r br e EE:=by
 cases r with
 |aT a F ob=>
  show oA (l5.ob P) λo P=>?_;exact⟨o,λm2 s' u R apv r=>apz a F m2 s' u R apv r P⟩
 |a8=>exact P.ak
 |no=>exact P.ak
universe e
def yK(s:10e4)(ab:eA)(b:al):b5 al:=forIn s b λc r=>if r=true then do let Y<-sV c ab (78 c);b9 (xb.uI Y)else b9 (xb.uI r)
def Uq:∀(s:10e4),yK s ab false=42e2
 | []=>rfl
 |c::cs=>by
  unfold yK;rw[D.AM];simp-fu only[al.zL,zM,Uj];exact Uq cs
section
variable{ih:Ih}{d:I}{sc:cD}
def ahg:∀{a:10e4} {r:23e6},cJ (PT ih d sc) a r->∀(F:MS) (x:Fx) (J:aW) (s:ae) (Q:28e9) (EE:0e5),3e6->x.ab.bt=sc->0e9->64 (pF ih true r F) RB->
  26 (yK a x.ab true):=by
 intro a r apz;induction apz with
 |aR=>exact λF x J s Q EE Y e R P=>274 H
 | @aQ C c n cs h hs m=>
  intro F x J s Q EE Y e R P;have P:64 ((mz ih c F).aF λb F=>cC (b==true) (pF ih true cs F) (7 b)) RB:=P;unfold yK;rw[D.AM];simp-fu only[wE];show aZ (aZ (h F x J s _ EE Y e R (P.aF λb aS w s1 u1 k v r1 p=>32e5)));cases r1;cases b with
  |true=>exact m aS x _ s1 Q EE Y e k p
  |false=>
   refine 283 (yK n x.ab false) s1;rw[Uq];exact bH (p.fL k H)
def ahh{γ δ:Type}{n:I}{t:al}{F:MS}{f:ez->MS->R γ}{x:Fx}{J:aW}{s:ae}{br:200 γ δ}{Q:38e2}{EE:0e5}(e:106 n)(P:11 (f () F)):11 ((gv n t F).aF f):=by
 unfold gv;cases t with
 |true=>
  cases q:f () F with
  |aT a du ob=>
   rw[q]at P;refine 11 (((f () F)).cj (287 n));rw[q];exact⟨λp b=>by
    rcases D.lL.mp b with h|h
    ·rw[52e6];exact e
    ·exact P.1 p h,P.2⟩
  |a8 i du ob=>
   rw[q]at P;refine 11 (((f () F)).cj (287 n));rw[q];exact⟨λp b=>by
    rcases D.lL.mp b with h|h
    ·rw[52e6];exact e
    ·exact P.1 p h,P.2⟩
  |no=>rw[q]at P;exact P.ak
 |false=>
  dsimp only;rw[I.Ur.bn e];dsimp only;rw[qY];exact P
def l5.gv{n:I}{t:al}{F:MS}{f:ez->MS->2e9}{wr:11e9}{x:Fx}{J:aW}{h:ai}{Q:154 ae}(P:l5 wr x J h ((gv n t F).aF f) Q):n<=16777216/\l5 wr x J h (f () F) Q:=by
 unfold Internal.gv at P;cases t with
 |true=>
  show oA (l5.ob P) λo P=>?_;exact⟨oV o,P⟩
 |false=>
  cases s:I.g6 n 16777216 with
  |true=>dsimp only at P;rw[s]at P;exact⟨I.cz s,(l5.ob P).2⟩
  |false=>dsimp only at P;rw[s]at P;exact P.ak
def JE(d:I)(a:cD)(e:PySem.a0)(it:It)(k j:I)(F:MS)(r:2e9):Prop:=
 ∀(x:Fx) (dC aC:aW) (h0:ai) (s:ae) (Q:154 ae) (h:aI) (wr:11e9) (p:9e3),3e6->x.ab.bt=a->167 dC aC F s->lF wr dC aC x h0 s.M->
  j1 x (dC++aC) s.M it k h wr->Wr x (dC++aC) s.M wr->(dC++aC)[j]? =5e1->l5 wr x dC h0 r Q->
  e8 3e0 x.A (.qw e 0 (.N h) 7e2 x.ab) (402 s') s
def Us(F:MS)(m:I)(it:It)(k j:I)(h:MS->R al)(s:MS->3e2)(rl:MS->2e9):2e9:=gN 32e4 144 λo=>o.ak 24e8 λv=>(h (F.fw m v)).aF λq F=>cC q
  ((s F).aF λx F=>gN (F.dL j) 158 λo=>QD o x j rl F) (rl F)
universe e
section
variable{ih:Ih}{d:I}{ko:cD}
def ML(W:Wr x J h wr)(apv:56 J x h h'):∀a∈wr,¬69 aC:=by
 intro a s q;show sO (W a s) λb o e=>?_;exact nN ((324 q) e)
def ahi{w apE:PySem.a0}{i:10e4}{apt:23e6}{e:apw}{id:am}{c aU:dA}{m:I}{V:cD}{it:It}{k j:I}{F:MS}{rl:MS->2e9}(hid:id=nm m)(aps:147 ko id=true)(ht:cJ (PT ih d ko) i apt)(he:PX ih d ko w e)(hg:∀s,it≠ .gM s)
  (hl:∀aS,JE d ko (.gW w [⟨174 c,apE,i,0⟩] V aU) it (k+1) j aS (rl aS)):JE d ko (.gW w [⟨174 c,apE,i,0⟩] V aU) it k j F (Us F m it k j (pF ih true apt) (ck ih e) rl):=by
 intro x dC aC h0 s Q g wr p Y S R apv apq W hp P;show PZ ?_;have no:∀(e:af) (s':ae),(λ(a:af) (a:ae)=>fT) e s'->j6 3e0 x.A x.ab (λe s'=>fT) e s':=λa a h=>h.ak;unfold Us at P;cases e0:it.at F k with
 |L=>rw[e0]at P;exact P.ak
 |G o=>
 rw[e0]at P;cases o with
 |L=>exact Mz Y R apq W e0 λh2 t f aps=>P.2 aC _ f (apv.hR aps)
 |G v=>
  have tg:Cs it (174 c):=by
   clear P R apq W e0 hl;cases it with
   |gM=>exact bL H (hg _)
   |_=>exact d2
  show Ub Y R apq W e0 tg λu h1 t1 go=>go _ _ λh2 f r2 T2 W2 Cw=>?_;have K2:=apv.hR Cw;show 23 (agB ..);have jA:=l3 aps S;show 44 (aM.of (Mf (s:=(84 h2 t1)) Y (λq=>by rw[jA]at q;cases q) f r2 hid (.a4 jA) λh3 t3 R3 K3=>?_));have P3:aH x (dC++aC) (84 h3 t3) (pF ih true apt (F.fw m v)) RB (λY s₃=>
      if Y=true then aM 3e0 x.A (233 w) (λapp s₄=>
       aM (3e0) x.A (409 [7e2,app]) (λa s₅=>e8 3e0 x.A (.qw (.gW w [⟨174 c,apE,i,0⟩] V aU) 0 (.N g) 7e2 x.ab) (402 s') s₅) (j6 3e0 x.A x.ab λe s'=>fT) s₄) (j6 3e0 x.A x.ab λe s'=>fT) s₃
      else e8 3e0 x.A (.qw (.gW w [⟨174 c,apE,i,0⟩] V aU) 0 (.N g) 7e2 x.ab) (402 s') s₃) (λa a=>fT):=by
   show P.aF λq Ut b B u4 apA K4 r4 P4=>?_;cases r4;have apx:Kp (dC++aC) b x h2 B.M:=K3.aV (297 K4);have W4:=W2.km f H apx;have apz:=T2.km (f.eI apx) W4.2;have Uu:lF wr dC (aC++b) x h0 B.M:=K2.aV apx (ML W2 apx);have apy:dC++aC++b=dC++(aC++b):=D.eP ..;have MM:(dC++(aC++b))[j]? =5e1:=by
    rw[<-apy,379 hp];exact hp
   rw[apy]at apA apz;have MN:Wr x (dC++(aC++b)) B.M wr:=apy▸W4.1;cases q with
   |false=>
    rw[d6 al.lM];exact hl Ut x dC (aC++b) h0 B Q g wr p Y S apA Uu apz MN MM P4
   |true=>
    rw[eY H];show eX (he Ut x _ B _ (λa a=>fT) Y S apA (P4.aF λapp st5 n s5 u5 apu apr r5 apD=>?_)) 51e5 no;have W5:=MN.km apA H apr;have T5:=apz.km (apA.eI apr) W5.2;have KW5:lF wr dC (aC++b++n) x h0 s5.M:=Uu.aV apr (ML MN apr);have apF:dC++(aC++b)++n=dC++(aC++b++n):=D.eP ..;have apB:(dC++(aC++b++n))[j]? =5e1:=by
     rw[<-apF,379 MM];exact MM
    rw[apF]at apu T5 r5;have Uv:Wr x (dC++(aC++b++n)) s5.M wr:=apF▸W5.1;cases apC:st5.dL j with
    |L=>rw[apC]at apD;exact apD.ak
    |G o=>
    rw[apC]at apD;cases o with
    |az l t=>
     show oA apD.gv λhz aqf=>?_;show eX (aM.of (Lv (Q:=λa s₅=>e8 3e0 x.A (.qw (.gW w [⟨174 c,apE,i,0⟩] V aU) 0 (.N g) 7e2 x.ab) (402 s') s₅) (EE:=λa a=>fT) apu apB apC r5 (ahh hz ⟨λa q=>(nomatch q),λE s6 aqQ R6 C aqR=>?_⟩))) 51e5 no;have W6:=Uv.km apu H C;have T6:=T5.km (apu.eI C) W6.2;have KW6:lF wr dC (aC++b++n++E) x h0 s6.M:=KW5.aV C (ML Uv C);have a6:dC++(aC++b++n)++E=dC++(aC++b++n++E):=D.eP ..;have hp6:(dC++(aC++b++n++E))[j]? =5e1:=by
      rw[<-a6,379 apB];exact apB
     rw[a6]at R6 T6;exact hl _ x dC _ h0 s6 Q g wr p Y S R6 KW6 T6 (a6▸W6.1) hp6 aqf
    |_=>exact apD.ak
  exact eX (ahg ht _ x _ _ _ (λa a=>fT) Y S R3 P3) 51e5 no
def ahj{r a e:PySem.a0}{m:10e4}{aU:dA}{h:cD}{it:It}{k j:I}{F:MS}{w1 w2:I}:JE d ko (133 r e a m h) it k j F (gN 32e4 w2 λo=>o.ak 24e8 λq=> .no w1):=by
 intro x dC aC h0 s Q w wr p Y u R apv apq W i P;show PZ ?_;cases e0:it.at F k with
 |L=>rw[e0]at P;exact P.ak
 |G o=>
 rw[e0]at P;cases o with
 |L=>exact Mz Y R apq W e0 λh2 t n b=>P.2 aC _ n (apv.hR b)
 |G v=>exact P.ak
universe e
section
variable{x:Fx}{J aC:aW}{F bR:MS}{s s1 s':ae}{cs sc:cD}{m d:I}{apt:aI}{wr:D aI}{h h' h0:ai}
def j1.Cy(apq:j1 x J h it k iv wr):j1 (nh x cs sc apt) J h it k iv wr:=by
 cases apq with
 |ej S=>exact .ej S
 |gM e S ne=>exact .gM e S ne
 |dS s hr=>exact .dS s hr
 |aR apC hz=>exact .aR apC hz
def Wr.Cy(W:Wr x J h wr)(hL:apt∉wr):Wr (nh x cs sc apt) J h wr:=by
 intro a s;show oA (W a s) λA e=>?_;show⟨⟨A.d3,λq=>?_,A.fa,A.j0,A.cp⟩,e⟩;rcases q with H|⟨q,_⟩
 ·exact hL s
 ·cases q
def ahk(apq:j1 x J s.M it k iv wr){Q:0e5}{EE:0e5}(h:Q (.N iv) s):97 (qv (.N iv)):=by
 cases apq with
 |ej S=>
  cases S with
  |iN S=>
   cases S with
   |ad l n aP _ _ m no r eu ne=>exact ahl eu h
   |j8 i p _ _ w eu ne=>exact ahl eu h
  |X l n aP _ _ m r eu ne=>
   (show dU eu λo e1 e2 e3=>?_;try clear eu);show PQ (apq:= "tuple_iterator") ⟨o,e1,e2⟩ PySem.apu.ahm (ny PySem.apu.ahm ⟨o,e1,e2⟩ PySem.apu.entry_tuple_iterator_iter ?_ (PySem.apu.args_tuple_iterator_iter_1 _));refine aY _ _ (bk (.N iv)) _ _ s;exact bX ⟨_,H, "tuple_iterator",_,⟨o,e1,e2⟩,PySem.apu.slot_tuple_iterator_next.bY,h⟩
 |gM b S ne=>exact ag2 b h
 |dS v hr=>exact wpAny_pyIter_rangeiter hr h
 |aR apC hz=>exact apC.2.2 s Q EE (λa a a e=>e) (λa a e=>e) h
def aK.ahn(R:0e9)(hz:x.fz=false)(hL:s.M.ao apt=L)(W:Wr x J s.M wr)(d:48e3)
  (R':aK (nh x cs sc apt) (J++aC) bR s') (K':lF wr J aC (nh x cs sc apt) s1.M s'.M) (K0:Kp dC m1 x h0 s.M) (MO:J=dC++m1) (A:∀a∈wr,46e3=L):207 ⟨bR.O,F.T,bR.bG⟩/\Kp dC (m1++aC) x h0 s'.M:=by
 have P:∀a o,4e4=0e4->¬fr (nh x cs sc apt) a:=by
  intro a o e apx;rcases apx with H|⟨q,_⟩
  ·exact nN (hL.bi.aV e)
  ·cases q
 have apv:lF wr J aC x s.M s'.M:=by
  show⟨λa o w e t f apD j=>K'.bS a o w (d a o e) t f (P a o e) j,λa o w e f apD=>K'.ju a o w (d a o e) f (P a o e),λa o w e t n=>K'.iW a o w (d a _ e) t n,λa o w e=>K'.g7 a o w (d a o e),λa app=>?_⟩;cases apw:s.M.ao a with
  |L=>rfl
  |G o=>exact 225 (K'.fm a app) (d a o apw)
 have bS:f8 J (J++aC) s.M s'.M:=by
  have V:∀a o,4e4=0e4->¬uh o->a∉wr:=λa o e apr w=>apr ((W a w).1.cp o e);show⟨λa aP e=>?_,λa aP e o=>?_,λa b n e o=>?_,λi p e=>⟨p,by rw[379 e];exact e,H⟩,(by intro c q apq;(show k7 apq λo vs t e a b r=>?_;try clear apq);exact⟨o,vs,t,apv.iW c o (V c o e λz=>nG ((Bu a b).bi.aV z.2.2.2)) e (Bu a b) (R.KR e a),a,b,r⟩)⟩
  ·(show gF e λo j S n hd=>?_;try clear e);exact⟨o,K'.bS a o (V a o j λq=>q.1 _ _ hd) (d a o j) 56e5 56e3 (P a o j) (λq=>R.By q j _ _ hd S),S,n,hd⟩
  ·(show gF e λob j S n hd=>?_;try clear e);exact⟨⟨ob,K'.bS a ob (V a ob j λq=>q.1 _ _ hd) (d a ob j) 56e5 56e3 (P a ob j) o,S,n,hd⟩,λq=>(46e2).ak o λq=>nN ((324 q) j)⟩
  ·exact⟨K'.bS a _ (V a _ e λq=>q.2.1 _ _ H) (d a _ e) H (R.lz e λes n q=>by cases q) (P a _ e) o,λq=>(46e2).ak o λq=>nN ((324 q) e)⟩
 have apE:∀a o,¬14e2->4e4=0e4->¬69 (J++aC):=λa o h1 h2 h3=>(jv.mp h3).ak h1 λh=>nN ((324 h) h2);have apu:∀a,FA x a->a∉wr:=λa f w=>(W a w).1.fa f;have ec:∀a o,FA x a->4e4=0e4->∃o',s'.M.ao a=G o'/\o'.bf=o.bf:=by
  intro a o f e;show dU (K'.ju a o (apu a f) (d a o e) f (P a o e)) λo' e1 apD e2=>?_;exact⟨o',e1,e2⟩
 have dm:∀c u,s.M.pS c u->¬cy J c->s'.M.pS c u:=by
  intro c u apq no;(show aN apq λo e hd=>?_;try clear apq);show⟨o,K'.bS c o (λw=>((W c w).1.cp o e).2.2.1 _ hd) (d c o e) (Bs hd) 54e9 (P c o e) no,hd⟩
 show⟨⟨R'.d8,R'.cU,R'.O,R'.nd,R'.gz,R'.up,⟨?_,λk v a b=>?_⟩,λa app=>(R.vG a app).ak λo e=>apE a o (R.bI a app) e,R.hM,R.b3,λz n c S=>?_,λl C e B=>?_,λa app=>⟨(122 app).1,(R.vH a app).ak λo e=>apE a o (122 app).2 e⟩,R'.dD,R'.os,R'.cW⟩,?_⟩
 ·obtain(⟨m,⟨o,es,ep,e,hd,hs⟩,hm⟩):=R.bq.iP;have:∃o',s'.M.ao x.ab.cY=G o'/\o'.bf=o.bf:=by
   by_cases q:FA x x.ab.cY
   ·exact ec _ _ q e
   ·exact⟨o,K'.bS _ o (λw=>(W _ w).1.fr 2e6) (d _ o e) (tL hd) q (P _ o e) (R.bI _ 2e6),H⟩
  (show aN bb λo' apz E=>?_;try clear bb);show(314 ⟨o',es,ep,apz,E.aV hd,hs⟩);show aN (hm k v a b) λu e1 r=>?_;exact⟨u,e1,30e3⟩
 ·obtain(⟨c,u,e1,e2,r,no⟩):=201 k v b;show aN (id e2) λo e3 apD=>?_;exact⟨c,u,e1,dm c _ e2 no,30e3,apE c _ no e3⟩
 ·show oE (R.hw z n c S) λw A=>?_;exact⟨w,dm c w A (R.bI c (247 z n S))⟩
 ·exact(R.gD l C e B).eI λa o e1 e2=>ec a o ⟨l,C,e,B,e1⟩ e2
 ·subst MO;have apA:∀b o,h0.ao b=0e4->b∉wr:=λb o e z=>225 (A b z) e;show⟨λa o e t f g j=>apv.bS a o (apA a o e) (K0.bS a o e t f g j) t f g λq=>?_,λa o e f g=>?_,λa o e t n=>apv.iW a o (apA a o e) (K0.iW a o e t n) t n,λa o e=>?_,λa app=>?_⟩
  ·rcases 46e2 with q|q
   ·exact j q
   ·exact 225 (K0.fm a q) e
  ·show dU (K0.ju a o e f g) λo1 e1 c1 d1=>?_;show dU (apv.ju a o1 (apA a o e) e1 f g) λo2 e2 c2 apy=>?_;exact⟨o2,e2,c2.aV c1,apy.aV d1⟩
  ·show oE (K0.g7 a o e) λo1 e1=>?_;exact apv.g7 a o1 (apA a o e) e1
  ·rcases jv.mp app with q|q
   ·exact K0.fm a q
   ·cases apw:h0.ao a with
    |L=>rfl
    |G o=>
     show oE (K0.g7 a o apw) λo1 e1=>?_;exact nN ((324 q) e1)
universe e
section
variable{x:Fx}{J:aW}{F:MS}{s:ae}
def aK.MP(R:0e9){wr:11e9}(r:∀a∈wr,o6 x J s.M a)(h:∀b o,b∉wr->8e8=0e4->11e8=0e4):f8 J J s.M h':=by
 show(421 ⟨p,e,H⟩ (h b q (415 ((r b z).cp q e)) e))
 ·show gF e λo e c n dd=>?_;exact⟨o,h b o (λz=>((r b z).cp o e).1 _ _ dd) e,c,n,dd⟩
 ·show gF e λo e c n dd=>?_;exact⟨⟨o,h b o (λz=>((r b z).cp o e).1 _ _ dd) e,c,n,dd⟩,no⟩
 ·exact⟨h b _ (λz=>((r b z).cp _ e).2.1 _ _ H) e,no⟩
universe e
section
variable{ih:Ih}{d:I}{sc cs:cD}{m:Tg}
def yL(ih:Ih)(m:Tg)(it:apw)(rl:It->I->MS->2e9)(F:MS):3e2:=(tC ih it F).aF λvs F=>gB (oR vs m) 157 ((ib (rl vs F.O.U ⟨F.O++[2e0],xF m F.T,F.bG⟩)).aF λa bR=>gX a 117 (.Y (.Z F.O.U) ⟨bR.O,F.T,bR.bG⟩))
def Uw(x:Fx)(h0:ai)(J:aW)(h:ai)(v:V)(p:af×aI):Prop:=RV J h v p.1/\(∃m,h.Ns p.2 m)/\o6 x J h p.2/\h0.ao p.2=L
def Ux{W z:PySem.a0}{apE:10e4}{it:apw}{apD:PySem.a0}{aU:dA}{F:MS}{rl:It->I->MS->2e9}(apC:un cs sc m)(MQ:sc.bq.bY 33e9≠12e3)(hi:PI ih d sc z it)
  (hl:∀vs j aS,oR vs m=true->JE d (qc cs sc) (133 W apD z apE cs) vs 0 j aS (rl vs j aS)) {x:Fx} {J:aW} {s:ae} {Q:af×aI->ae->Prop} {EE:0e5} (Y:3e6) (n5:44e2) (R:0e9)
  (P:64 (yL ih m it rl F) (Uw x s.M)):aM 3e0 x.A (233 z) (λapp s₁=>260 (qv app) (λit s₂=>260 (Sz []) (λcP apy=>
   aY (3e0) x.A (zI cs x.ab.ha (l4 x.ab.b3 cs.bq []) [] x.ab.px L .L (G x.ab)) (λjM s₄=>
    e8 (3e0) x.A (.xa (133 W apD z apE cs) 0 it cP (319 cs x.ab)) (λr s'=>match r with
     | .Y _=>Q (cP,jM.cY) s'
     | .dJ x=>fT) s₄) EE apy) EE s₂) EE s₁) EE s:=by
 have hz:x.fz=false:=by
  cases q:x.fz with
  |false=>rfl
  |true=>exact bL (n5▸Y.iF q) MQ
 show hi F x J s _ EE Y n5 R (P.yI λvs aS u s1 u1 aqg apz r1 k=>?_);show fV k λhtg k=>?_
 ·show Uf aqg apz r1 λapr wr h2 t i K2 T2 apB fr=>?_;have MR:71 u h2:=by have:=apz.aV K2;rw[D.dZ]at bb;exact bb
  show J6 ?_ (by refine 0<=_;exact 31e7);have yM:=jY (h:=h2) (309 ([]:2e5).gG);have w:=i.Lg (p:=(h2.O.an,[])) (o:= 2e0) yM (vI _) (λa g=>x4 g ⟨11e7,Li _⟩) (D.jf.bn ⟨nofun,.aR⟩) i.m9
   ⟨H,31e7,[],⟨_,10e0⟩,.aR⟩ t
  have apu:=MR.aV w.2;have S:=apB.km i H w.2;have aqh:=T2.km (i.eI w.2) S.2;show aho (λapp V e=>apC.MI app.1 (by rw[<-e];exact MJ apC.nd V)) (λapp V=>nomatch V) (λn hns apv=>?_) apC.d9;generalize aqS:h2.b6 {bj:= .aB "list",bf:= .cH ([]:D af).gG}=H3 at*;have h7:∀a o,H3.ao a=0e4->n.ao a=0e4:=λa o e=>apv.mu a o 41e9 33e0;have R4:=aK.ahf (apt:=H3.O.an) apC Y n5 hz w.1 H hns h7 t;rw[aha n5];have hLw:H3.O.an∉wr:=λq=>by
   show sO (S.1 _ q) λc o e=>?_;exact 293 9e1
  have C:=aqh.km (aC:=[]) (h':=n) (by rw[D.dZ];exact je h7) (λa g o e=>h7 a o e);have apF:Wr x (J++u++[(h2.O.an,[])]) n wr:=λa g=>by
   show sO (S.1 a g) λA o e=>?_;exact⟨⟨A.d3,A.fr,A.fa,A.j0,λo' l=>by rw[h7 a o e]at l;cases l;exact A.cp o e⟩,o,h7 a o e⟩
  have gk:e8 3e0 x.A (.qw (133 W apD z apE cs) 0 43e4 (.N h2.O.an) (nh x cs sc H3.O.an).ab) (λr s'=>match r with
     | .Y _=>Q (.N h2.O.an,H3.O.an) s'
     | .dJ x=>fT) (375 n t):=by
   show zA (hl vs aS.O.U _ htg (nh x cs sc H3.O.an) (J++u++[(h2.O.an,[])]) [] n (375 n t) (λs'=>Q (.N h2.O.an,H3.O.an) s') apr wr (h2.O.an,[]) (ahe apC Y n5) H
    (297 R4) lF.b8 C.Cy (by rw[D.dZ];exact apF.Cy hLw) (by rw[D.dZ,<-i.cU,28e3,I.jl];rfl) ?_) λr s' h=>h
   generalize rl vs aS.O.U ⟨aS.O++[.az [] false],xF m aS.T,aS.bG⟩=r at k⊢;have apx:H3.ao H3.O.an=L:=52e0;cases r with
   |a8=>exact k.ak
   |no=>exact k.ak
   |aT a bR ob=>
    cases a with
    |v=>exact k.ak
    |b=>exact k.ak
    |f aps=>
     cases aps with
     |bk v=>exact k.ak
     |next=>
      have apq:64 ((Internal.R.Y (.Z aS.O.U) ⟨bR.O,aS.T,bR.bG⟩).cj ob) (Uw x s.M):=k;show⟨(aH.cj apq).1,λaC s' apA K'=>?_⟩;have apq:=(aH.cj apq).2;obtain⟨m',B,_⟩:=apA.bq.iP;show oA (aK.ahn (apt:=H3.O.an) (wr:=wr) w.1 hz apx S.1 (s1:=(375 n t)) h7 apA K' apu (D.eP ..) fr) λR6 K6=>?_;have E:∀{p:Prop},(∃o,H3.ao H3.O.an=0e4)->p:=λ⟨o,e⟩=>nN (apx.bi.aV e);have ap:o6 x (J++u++[(h2.O.an,[])]++aC) s'.M H3.O.an:=by
       show⟨apA.bI _ 2e6,λq=>E (w.1.vG _ q),λq=>E (w.1.vH _ q),apA.hM _ 2e6,λo e=>?_⟩;(show uE B λo' es ep l hd c=>?_;try clear B);have l:s'.M.ao H3.O.an=G o':=l;rw[e]at l;cases l;show⟨λc c q=>?_,λc c q=>?_,λc q=>?_,?_⟩
       ·rw[hd]at q;cases q
       ·rw[hd]at q;cases q
       ·rw[hd]at q;cases q
       ·exact tL hd
      have e:J++u++[(h2.O.an,[])]++aC=J++(u++[(h2.O.an,[])]++aC):=by simp only[D.eP]
      show apq.2 (u++[(h2.O.an,[])]++aC) _ (_,_) (e▸R6) K6 ⟨.Z _ (h2.O.an,[]) ?_,⟨m',B⟩,e▸ap,uj (s:=(375 H3 t)) apu 11e7⟩;rw[<-e,D.kR (by rw[<-i.cU];simp),<-i.cU,28e3,I.jl];rfl
  exact aco gk (ahk (x:=nh x cs sc H3.O.an) C.Cy gk)
def ahp{o h:PySem.a0}{l:10e4}{it:apw}{i:PySem.a0}{aU:dA}{F:MS}{rl:It->I->MS->2e9}(apC:un cs sc m)(B:sc.bq.bY 33e9≠12e3)(V:PI ih d sc h it)(hs:∀ab x,u9 h ab x=b9 x)
  (hl:∀vs j aS,oR vs m=true->JE d (qc cs sc) (133 o i h l cs) vs 0 j aS (rl vs j aS)):
  43 (133 o i h l cs) (yL ih m it rl F):=by
 intro x J s Q EE Y c R P;show 23 (arm_eval_ListComp ..);dsimp only;have apq:=MG (bt:=cs) (ab:=x.ab) λp W t=>Y.vB p.1 (by
  obtain⟨n,k⟩:=p
  dsimp only at t
  subst t
  have:=apC.eH n W
  unfold eA.dB
  rw[c];exact bb)
 have apD:∀app∈cs.bq,app.2= .cV->cs.bq.bY app.1=12e3:=λapp S e=>by
  obtain⟨n,k⟩:=app;dsimp only at e;subst e;exact MJ apC.nd S
 show acq (g:=⟨i,h,l,0⟩) (gs:=[]) H (λv=>hs x.ab v) apq apC.d9 apD ?_;show Ux (Q:=λp s'=>∃m,s'.M.Ns p.2 m/\∀h',ai.fA p.2 s'.M h'->Q p.1 {s' with M:=h'}) apC B V hl Y c R ?_;generalize yL ih m it rl F=r at P⊢;cases r with
 |no=>exact P.ak
 |a8=>exact P
 |aT v bR ob=>
  show⟨P.1,λaC s' u f apA r=>?_⟩;(show lJ r λr C b z=>?_;obtain⟨m',hm⟩:=C);show⟨m',hm,λh' q=>?_⟩;have b:∀a∈ [u.2],o6 x (J++aC) s'.M a:=λa w=>by rw[D.cZ.mp w];exact b
  have apE:=apA.hR (wr:=[u.2]) (λa w=>by rw[D.cZ.mp w];exact z) (ng q);exact P.2 aC _ _ (f.hR b (ng q) s'.a1) apE (dP (f.MP b (ng q)) r)
universe e
section
variable{x:Fx}{J:aW}{F:MS}{s:ae}{Q:af->ae->Prop}{EE:af->ae->Prop}
def MT(R:0e9)(b:152 a aP)(r:cx J s.M l aP)(p:43e3)(P:188 (.y l.U t)):
  322 "len" [2e2]:=by
 have h:=iy r;have e:(((bP.mk aP).an:I):K)=(l.U:K):=by rw[<-h];rfl
 show call_len_list b (by rw[e];lia) ?_;rw[e];exact 50e1
def int_bool(R:0e9)(P:188 (.y (if b then 1 else 0) t)):97 (aX (.aB "int") [.bp b]):=
 call_int_bool 50e1
def bytes_list(Y:3e6)(R:0e9)(b:152 a aP)(h:cx J s.M l aP)(w:43e3)(e:lR l=G ns)(hr:ns.dM (290 (i<256))=true)
  (P:188 (.ch (ns.aj λi=>48e0))):97 (aX 27e0 [2e2]):=by
 have apy:=KZ e h;have v:=iy h;show call_bytes_ints (vs:=aP) b apy (λn p=>?_) (by rw[f3];lia) Y.e9 λh' t k r=>?_
 ·have:=D.iw.mp hr n p;simpa using bb
 ·have E:=R.jy r k;have m:byteArr ns=⟨ns.aj λi=>48e0⟩:=H;rw[m];show P.bk E.1 E.2 (.ch _ _ ?_);rw[D.fs,<-apy.U];lia
def tuple_list(R:0e9)(p:152 a aP)(h:cx J s.M l aP)(k:43e3)(P:188 (.X l)):
  97 (aX 26e5 [2e2]):=by
 have n:=iy h;show call_tuple_list p (λh' m=>?_) (364 aP.U);have r:∀b o,8e8=0e4->(h'.b6 (308 32e3)).ao b=0e4:=λb o e=>117 (m b o e);have E:=R.jy r s.a1;exact P.bk E.1 E.2 (.X l _ aP ⟨_,10e0,H,_,H⟩ k (hN (je r) h))
def Uy(R:0e9)(h:4e4=15e1)(k:106 b.U)(P:188 (2 b.U)):322 "len" [2e2]:=by
 have e:47e6 :=(51 h);show PyProof.Rows.call_len_slot (n:=(b.U:K)) e BA.JD (λp r=>ny BA.JD e BA.entry_len ?_ (BA.abI _)) (by exact K.not_ofNat_neg b.U) bN 50e1;refine aY _ _ (dH.w4 2e2>>=_) _ _ s;exact bg (uV h (bg (wpAny_mkInt (bX ⟨_,H,r⟩))))
universe e
def MU:83 [a]->∃u,us=[u]/\146 a:=by
 intro r;cases r with|aQ r q=>cases q;exact⟨_,H,r⟩
def ahq:83 [a,b]->∃u v,us=[u,v]/\146 a/\RV J h b v:=by
 intro r;cases r with
 |aQ r q=>
 (show aN (MU q) λv x s=>?_;subst x);clear q;exact⟨_,_,H,r,s⟩
section
variable{x:Fx}{J:aW}{F:MS}{s:ae}{Q:af->ae->Prop}{EE:af->ae->Prop}{d:I}{h':ai}
def vW(R:0e9)(r:17 a u)(h:lU a F=G l):∃apr aP,u= 43e4/\152 apr aP/\cx J s.M l aP/\l.U<=16777216:=by
 cases r with
 |ad m t apr aP e no k b=>cases ar.G.cF h;exact⟨apr,aP,H,e,b,k⟩
 |Z i p v=>
  show aN (ar.la.mp h) λo e h=>?_;show sP (aps.Rv h (42 _ e v)) λaP n b w k=>?_;exact⟨_,aP,H,n.iI,b,k⟩
 |_=>exact nN h
def ahr:∀{a b:D K},a.qx b->a.vd (· <= ·)->b.vd (· <= ·)->a=b:=λp h1 h2=>D.qx.eq_of_pairwise (le:=(· <= ·)) (λa b s s x app=>K.le_antisymm x app) h1 h2 p
def Uz(a b:K)(l:D K):vk a (b::l)=if a<=b then a::b::l else b::vk a l:=H
def MV(a:K):∀l,(vk a l).qx (a::l)
 | []=>D.qx.b8 _
 |b::l=>by
  rw[Uz];split
  ·exact D.qx.b8 _
  ·exact((MV a l).aQ b).aV (D.qx.swap a b l)
def ahs(a:K)(l:D K):l.vd (· <= ·)->(vk a l).vd (· <= ·):=by
 induction l with
 |aR=>exact λr=>D.pairwise_singleton ..
 |aQ b l e=>
  intro h;show oA (D.L5.mp h) λh1 h2=>?_;rw[Uz];by_cases x:a<=b
  ·rw[eY x];show D.L5.bn ⟨λc s=>?_,h⟩;rcases 48e5 with H|s
   ·exact x
   ·exact K.dV x (h1 c s)
  ·rw[d6 x];show D.L5.bn ⟨λc s=>?_,e h2⟩;rcases D.eS.mp ((MV a l).mem_iff.mp s)with H|s
   ·exact K.le_of_not_le x
   ·exact h1 c s
def MW:∀l,(xA l).qx l
 | []=>D.qx.b8 _
 |a::l=>(MV a _).aV ((MW l).aQ a)
def UA:∀l,(xA l).vd (· <= ·)
 | []=>D.vd.aR
 |a::l=>ahs a _ (UA l)
def aht(r:tr us ns):83 (ns.aj λi=> .y i t):=by
 induction r with
 |aR=>exact .aR
 |aQ n k r s=>exact .aQ (.y n t k) s
def UB{b:4e9}:∀{us:2e5},us.U=b.U->(∀(i:I) v,us[i]? =2e4->∃c t,b[i]? =G c/\v= .y c.aJ t)->83 (b.aj bB):=by
 induction b with
 |aR=>intro us s _;rw[D.J4.mp s];exact .aR
 |aQ c b ih=>
  intro us s x;cases us with
  |aR=>cases s
  |aQ u us=>
   (show gd (x 0 u H) λr t e a=>?_;subst a);cases e;clear e;exact .aQ (.y _ _ t) (ih (I.hI.cF s) λi v h=>x (i+1) v h)
def UC{l:5e6}:∀{ns:D K},lR (l.aj (·.1))=G ns->344 (nI p.1)=true:=by
 induction l with
 |aR=>exact λx=>rfl
 |aQ p l s=>
  intro ns h;obtain⟨k,v⟩:=p;rw[D.nZ]at h;cases k<;>first|(cases h;done)|skip
  show aN (ar.hh.mp h) λa e x=>?_;rw[D.te,s e];rfl
def UD(r:Bq J h l bK):lR (l.aj (·.1))=G (bK.aj (·.1)):=by
 induction r with
 |aR=>rfl
 |aQ r _ ih=>
  show oE r.1 λt e=>?_;rw[D.nZ,e];exact bC (ar.aj (_:: ·)) ih
def ahu(R:0e9)(r:17 a u)(P:10 (Qr a F)):322 "len" [u]:=by
 induction r using RV.cE with
 |ch b tk h=>exact len_bytes (I.dV h aq) 50e1
 |X l apr aP k h v=>
  have w:=iy v;have e:(((bP.mk aP).an:I):K)=((aP.U:I):K):=H;rw[w]at e;show len_tuple k (by rw[e];lia) ?_;rw[e];exact 50e1
 |ad l t apr aP e no h v=>exact MT R e v h P
 |ei b a e no h=>exact Uy R e h P
 |Z i p m=>
  show eE P λob e P=>?_;cases ob with
  |az l t=>
   show gq (42 _ e m) λq h aP k n=>?_;exact MT R k.iI n h P
  |au l=>
   show gq (42 _ e m) λq h aP k n=>?_;exact MT (l:=l.et) (t:=true) R k.iI n (408 h) (408 P)
  |eG b=>exact Uy R (42 _ e m).2.2 (42 _ e m).2.1 P
  |_=>exact P.ak
 |_=>exact P.ak
def ahv(e:Kf a F=G l):∃l',AT F a=G l'/\l=l'.aj (·.1):=by
 cases a with
 |Z i=>
  show aN 30e9 λl' h e=>?_;exact⟨l',h,e.bi⟩
 |_=>exact 19e2
def ahw(Y:3e6)(R:0e9)(r:17 a u)(e1:Kf a F=G l)(e2:lR l=G ns)(b:ns.U<64)(P:188 (8 ((xA ns).aj λi=> 6e5))):
  322 "sorted" [u]:=by
 (show aN (ahv e1) λl' j h=>?_;subst h)
 ·(show jC (x8 (yf R j r) (UC e2)) λa bK h n1 dd k=>?_;subst h);clear r e1;have e:=UD k;rw[e2]at e;clear e2;cases e;show oE dd.MX λep q=>?_;show acD Y.e9 q n1 (by rw[D.fs]at b;exact b) λh' tk apr bI lj w m p v n a3=>?_;have e3:lj=xA (bK.aj (·.1)):=ahr (n.aV (MW _).bi) a3 (UA _);have o:=(MW (bK.aj (·.1))).length_eq;exact BS (us:=bI.gi) R w (by simpa using m.iI) p (by rw[D.fs];lia) (aht (e3▸v)) P tk
def ahx(Y:3e6)(R:0e9)(p:171 as)(P:10 (AX fz n as F)):322 n us:=by
 show kT P (λh P=>?_) λw P=>kT P (λh P=>?_) λw P=>kT P (λh P=>?_) λw P=>kT P (λh P=>?_) λw P=>kT P (λh P=>?_) λw P=>P.ak;all_goals rw[jx h]
 ·exact lC p P λa u r P=>ahu R r P
 ·exact lC p P λa u r P=>eE P λl e P=>by
   show aN 36e2 λl e1 e2=>?_;(show jC (vW R r e1) λapr aP f m p g=>?_;subst f);show sum_list Y.e9 m (KZ e2 p) λh' tk t' c=>?_;have E:=R.jy c tk;exact P.bk E.1 E.2 (.y ..)
 ·show gC_ p P λa apA as us r p P=>lC p P λb apq S P=>m8 r P λi t tk P=>m8 S P λj u V P=>max_two_ints Y.e9 λh' k c=>?_;have E:=R.jy c k;by_cases q:j>i
  ·rw[show jq i j=j by lia]at P;rw[eY q];exact P.bk E.1 E.2 (.y ..)
  ·rw[show jq i j=i by lia]at P;rw[d6 q];exact P.bk E.1 E.2 (.y ..)
 ·show lC p P λa u r P=>eE P λl e P=>?_;(show jC (vW R r e) λapr aP f m p g=>?_;subst f);show BN (C:=λw aP=>152 apr aP->322 "all" [43e4]) p P (λP m=>?_) m;have z:apr<s.M.O.an:=by(show aN m λo e w=>?_;try clear m);exact 9e1
  show call_all_walk (AK m ⟨s.M.O.an,_,_,_,_,_,λw=>true,H,J2.az (A:=x.A.fh) Y.e9 s.M.O.an apr (I.iq z) ⟨[]⟩,⟨⟨_,10e0,H,H⟩,m.at λo e=>33e0⟩,?_,λh' tk c=>?_⟩)
  ·intro i v _ _ _ h;simp at h
  ·have E:=R.jy (λb o e=>c b o (λhm=>bL 9e1 (419 (D.cZ.mp hm))) 33e0) tk;exact P.bk E.1 E.2 (.bp ..)
 ·exact lC p P λa u r P=>eE P λns e P=>fV P λapp P=>fV P λhz P=>by
   show aN 36e2 λl e1 e2=>?_;exact ahw Y R r e1 e2 (I.sj.mp app) P
universe e
section
variable{x:Fx}{J:aW}{F:MS}{s:ae}{Q:af->ae->Prop}{EE:af->ae->Prop}{d:I}
def ahy:(af.iS b tk)= .iS ⟨b.gi⟩ tk:=H
def ahz(Y:3e6)(R:0e9)(r:17 a u)(e:vj a F=G l)(P:188 (6 l)):26 (aX 19e6 [u]):=by
 induction r using RV.cE with
 |ch b tk m=>
  cases ar.G.cF e;show aM.of (list_bytes Y.e9 m λh' k cP f w q h=>?_);have j:cP.gi.U=b.U:=by rw[bP.J5];exact h.1
  show BS (us:=cP.gi) R w ⟨_,q,H,f,H⟩ 52e0 (by rw[D.fs];exact m) (UB j λi v n=>?_) P k;show gd (h.2 i v (by rw[<-bP.Qd];exact n)) λc u h1 h2=>?_;exact⟨c,u,by simpa using h1,h2⟩
 |Z i p z=>
  show aN 36e2 λo t e=>?_;cases o with
  |eG b=>
   cases ar.G.cF e;show hV (42 _ t z) λg m app=>?_;show aM.of (acz Y.e9 app m λh' k cP f w q h=>?_);have j:cP.gi.U=b.U:=by rw[bP.J5];exact h.1
   show BS (us:=cP.gi) R w ⟨_,q,H,f,H⟩ 52e0 (by rw[D.fs];exact m) (UB j λi v n=>?_) P k;exact h.2 i v (by rw[<-bP.Qd];exact n)
  |_=>exact 19e2
 |_=>cases e
def UE(Y:3e6)(R:0e9)(p:171 as)(P:10 (vl fz n as F)):26 (aX (.aB n) us):=by
 show kT P (λh P=>?_) λw P=>kT P (λh P=>?_) λw P=>kT P (λh P=>?_) λw P=>kT P (λh P=>?_) λw P=>kT P (λh P=>?_) λw P=>P.ak;all_goals rw[jx h]
 ·show lC p P λa u r P=>?_;cases e:lU a F with
  |G l=>
   rw[e]at P;show oA (sk P) λhz P=>?_;(show jC (vW R r e) λapr aP j v p c=>?_;subst j);have S:=iy p;(show gF v λo z app k hd=>?_;try clear v);show aM.of (call_list_seq apr 2e6 z app hd (λh' g f q=>?_) (364 aP.U));exact R0 R f p ⟨g,q⟩ hz P s.a1
  |L=>rw[e]at P;exact eE P λl q P=>fV P λhz P=>ahz Y R r q P
 ·exact lC p P λa u r P=>eE P λl e P=>by
   (show jC (vW R r e) λapr aP j v p c=>?_;subst j);exact aM.of (tuple_list R v p c P)
 ·show lC p P λa u r P=>?_;have hR:10 (gN ((lU a F).cr lR) 52 λl=>(oQ (l.dM (290 (i<256))) true F).aF λw F=> 7 (.ch (265 48e0)))->26 (aX 27e0 [u]):=λP=>eE P λns e P=>by
   show aN 36e2 λl e1 e2=>?_;(show jC (vW R r e1) λapr aP j v p c=>?_;subst j);show oA (tY P) λm P=>?_;exact aM.of (bytes_list Y R v p c e2 m P)
  induction r using RV.cE with
  |y n t tk=>
   show oA (tY P) λm P=>?_;have m:=fq m;show aM.of (acI m.1 m.2 λt k=>?_);rw[ahy];show P.jU R k ?_;rw[bP.toList_replicate];exact .ch _ _ (by rw[D.Cz];lia)
  |_=>exact hR P
 ·show lC p P λa u r P=>m8 r P λn t tk P=>?_;show oA (tY P) λm P=>?_;have m:=fq m;show PJ (b:=286 0) Y.j7 (.a4 ⟨n,tk,H,m.1,m.2,H⟩) λh' q f hz=>?_;exact R.BR f (by exact ai.cQ q) P s.a1 λw=>⟨H,by rw[D.Cz];lia,q⟩
 ·show lC p P λa u r P=>?_;induction r using RV.cE with
  |bp=>exact aM.of (int_bool R P)
  |_=>exact P.ak
universe e
def ahA(h:∀f as F,JC d f as F (rR ih f as F))(a:∀f as F (J:aW) (s:ae) (Q:0e5) (EE:0e5),0e9->10 (rR ih f as F)->kW F f):qX ih fz d x:=by
 intro f as F J s u us Q EE Y R rf e P;have go:10 (rR ih f as F)->_:=λP=>i4.nr (a f as F J s Q EE R P) (h f as F x J s u us Q EE Y R rf e P);cases rf with
 |aa u=>cases u with
  |bJ=>exact⟨d2,aM.of (ahx Y R e P)⟩
  |aB=>exact⟨d2,UE Y R e P⟩
  |_=>exact go P
 |_=>exact go P
section
variable{bc:gT}{w:eB}{A:dg}{E:af->ae->Prop}{s:ae}
def ahB{S apr:aI}{us vs:2e5}{Q:0e5}(b:s.M.ka S 29e3)(a:152 apr vs)(hz:us.U+vs.U<=16777216)
  (h:∀h',h'.ka S ⟨us++vs⟩->168 S h'->158 .L):41 (261 "list.extend" [.N S,43e4]):=by
 show oE (id b) λn e=>?_;(show gF a λo r p k hd=>?_;try clear a);show ny PySem.apu.afY (51 e) PySem.apu.entry_list_extend ?_ (PySem.apu.args_list_extend_2 _ _);refine aY _ _ (Builtin.D.vb (.N S) 43e4 .L) _ _ s;unfold Builtin.D.vb;show cL (ti ⟨o,r,p⟩ λx=>?_);show pc (by simp) <|?_;show cL (ahC r hd λx=>?_);show cL (ahC e H λx=>?_);have m:¬(!(bP.mk us).jN&&Builtin.D.Lm ((189 us)+(189 vs)))=true:=extend_door (by rw[f3];exact hz);show sR m λx x=>?_;show bg (listUpdate_at e H ?_ (by rw[f3];refine us.U<=_;exact I.Rq hz) (by rw[bP.size_append,f3];refine us.U+vs.U<=_;exact I.le_add_right_of_le hz));show bX ⟨_,H,h _ ?_ (ai.fA.eN ..)⟩;have:=Mh b (· ++(bP.mk vs));simpa using bb
universe e
section
variable{α:Type}[qO α]
def ahD{bK:D (α×af)}{v:af}(x:(bK.aj (·.1)).dX):((yC bK k v).aj (·.1)).dX:=by
 unfold yC;split
 ·rw[D.rC];have:(bK.aj ((·.1)∘λs=>if s.1=k then(s.1,v)else s))=bK.aj (·.1):=D.yD λp w=>by
   refine(if p.1=k then(p.1,v)else p).1=p.1;split<;>rfl
  rw[bb];exact x
 ·rename_i h;rw[D.sB,D.RZ];show⟨x,by simp,λa m b r e=>?_⟩;subst e;simp only[D.nZ,D.map_nil,D.cZ]at r;subst r;show aN (D.sr.mp m) λp n e=>?_;exact h (D.qa.bn ⟨p,n,by simp[e]⟩)
universe e
def UF{apv:Type}[qO apv]{f:38e7}(e:∀{a b k x},f a k->f b x->m0 k x=bM (a=b)){m:5e6}{aC:31e5}{l:5e6}{bK:31e5}(apz:RK f J h m aC):RK f J h l bK->(bK.aj (·.1)).dX->RK f J h 46e0 (merged bK aC):=by
 induction apz generalizing l bK with
 |aR=>exact λr v=>r
 |aQ a w n=>exact λr s=>n (TH e a.1 a.2 r s) (ahD s)
section
variable{x:Fx}{J:aW}{F:MS}{s:ae}{Q:af->ae->Prop}{EE:af->ae->Prop}{d:I}
def aK.MX(R:0e9){k:I}{l:5e6}{p:9e3}(n:F.O[k]? =G (.bw l))(m:J[k]? =5e1):nE x J s.M 7e2 l/\p.2=[]/\∀q,s.M.ao p.1=G q->ix q=false:=by
 show gq (42 k n m) λq v b e z=>?_;have h:b.yo/\∃es ep,b.bf= .bw es ep:=by rcases z with⟨_,⟨es,ep,h,hd,_⟩,_⟩|⟨_,⟨es,ep,h,hd,_⟩,_⟩<;>exact⟨h,es,ep,hd⟩
 show⟨⟨p.1,H,?_,z.f5 ((by intro a;(show aN a λbK d r=>?_;try clear a);exact⟨bK,377 b e d,r⟩)) (by intro a;(show aN a λbK d r=>?_;try clear a);exact⟨bK,377 b e d,r⟩)⟩,q,TK e h.1 h.2⟩;have h1:=R.gz p.1 ⟨p,D.jc m,D.dQ ..⟩;show se.bn λq=>?_;rw[q]at h1;exact bL h1 aq
def ahE(r:Br J h l bK):344 (rN p.1)=true:=by
 induction r with
 |aR=>rfl
 |aQ r _ ih=>rw[D.te,ih,show _=_ from r.1];rfl
def UG(m:5e6):∀l:5e6,(46e0).U<=l.U+m.U:=by
 induction m with
 |aR=>intro l;exact 11e7
 |aQ p m ih=>
  intro l;have h1:=ih (iU l p.1 p.2);have h2:=TJ p.1 p.2 l;simp only[D.ME,D.m7];lia
def UH{i:I}{p:9e3}{l m:0e0}{v:V}{u:af}(R:0e9)(w:J[i]? =5e1)(d:p.2=[]){us:2e5}(h:s.M.ka p.1 29e3)(b:171 l)(r:15e7)(e:lU v F=G m)(hz:l.U+m.U<=16777216)
  (oX:∀{h':ai} {a:2e5},h'.ka p.1 ⟨a⟩->cx J h' (l++m) a->RO x.w J h' p o') (P:10 (277 o')):322 "list.extend" [7e2,u]:=by
 (show jC (vW R r e) λapr aP j o n hm=>?_;subst j);clear r;have h1:=iy b;have h2:=iy n;show ahB h o bN λh' q c=>?_;have apA:=R.na (o':=o') w (D.dQ ..) c (tZ h.iI) (λk=>oX q (.lX (hN k b) (hN k n))) s.a1;exact 267 14e9
def ahF{i j:I}{p q:9e3}{l m:5e6}(R:0e9)(u:J[i]? =5e1)(A:18e7=G (.bw l))(g:J[j]? =G q)(apq:F.dL j=G (.bw m))(hs:l.U+m.U<=900)(W:i≠j)(c3:m.dM (λp=>nJ l p.1)=true)(c4:m.dM (λp=>nJ m p.1)=true)
  (P:10 (277 (.bw 46e0))):410 [7e2,.N q.1]:=by
 have apE:p.1≠q.1:=λe=>W (R.si u g (D.dQ ..) (e▸D.dQ ..));show hV (R.MX A u) λv B apr=>?_;have d:=(R.MX apq g).1;have fl:=UG m l;have go:∀{apv:Type} [qO apv] {gZ:x7 pw x.w apv} {f:38e7} (z:∀{a b k t},f a k->f b t->m0 k t=bM (a=b)) {k1 k2:31e5},s.M.qP gZ p.1 k1->RK f J s.M l k1->s.M.qP gZ q.1 k2->RK f J s.M m k2->(q.1==tu)=false->
   (∀{h'} {o:aA},(∃bK,o.qL gZ bK/\RK f J h' 46e0 bK)->DK x.w J h' o 46e0)->410 [7e2,.N q.1]:=by
  intro apv _ gZ f z k1 k2 d1 r1 h r2 n fW;show call_meetsIn PySem.apu.afZ d1.mY PySem.apu.entry_dict_update (PySem.apu.args_dict_update_2 _ _) (meets_dict_update gZ p.1 q.1 apE n) ⟨k1,k2,d1,h,by rw[f3,r1.cU,r2.cU];lia,λh' hm c hs=>?_⟩;have apA:=339 (.bw 46e0) u hs apr ⟨B,bN,(ai.lZ.mp hm).f5 λo' w=>⟨w.1,fW ⟨_,w.2,UF z (tO k r2) (tO k r1) (Rw d1)⟩⟩⟩ s.a1;exact 267 14e9
 have app:344 (nI p.1)=true->m.dM (λp=>nI p.1)=true->410 [7e2,.N q.1]:=by
  intro h1 h2;show jC (x8 v h1) λapD k1 e1 n1 d1 r1=>?_;show jC (x8 d h2) λapw k2 e2 n h r2=>?_;cases e1;cases e2;exact go BH d1 r1 h r2 n .a4
 have S:344 (rN p.1)=true->m.dM (λp=>rN p.1)=true->410 [7e2,.N q.1]:=by
  intro h1 h2;show jC (BJ v h1) λapD k1 e1 n1 d1 r1=>?_;clear n1;show jC (BJ d h2) λapw k2 e2 n h r2=>?_;cases e1;cases e2;exact go BI d1 r1 h r2 n .aE
 clear P go d fl hs apq;cases m with
 |aR=>
  (show dU v λc c c C=>?_;try clear v;obtain(⟨_,_,r⟩|⟨_,_,r⟩):=C)
  ·exact app (UC (UD r)) H
  ·exact S (ahE r) H
 |aQ pk m'=>
  rw[D.te]at c3 c4;have c3:=(ba c3).1;have c4:=(ba c4).1;obtain⟨pk,E⟩:=pk;cases pk with
  |y=>exact app c3 c4
  |ag=>exact S c3 c4
  |_=>cases c3
def ahG(x:Fx):Tx x:=by
 intro i p o n id as F J s us Q EE d Y R w z c app P;have f:∀{a b:I},I.bZ a b=true->a=b:=I.f0;cases o with
 |az l t=>
  show kT P (λh P=>?_) λg P=>kT P (λh P=>?_) λg P=>fV P λh P=>?_
  ·cases f h;cases c;exact lC app P λv u r P=>aM.of (Lv R w z r P)
  ·cases f h;cases c;show lC app P λv u r P=>eE P λm e P=>?_;show oA (sk P) λhz P=>?_;show gq (42 i z w) λq apw aP apq W=>?_;exact aM.of (UH (o':= .az (l++m) _) R w q apq W r e (by rw[D.hP]at hz;exact hz) (λV S=>⟨q,hz,_,V,S⟩) P)
  ·cases f h;cases c;show BN app P λP=>?_;cases e:l.et with
   |aR=>rw[e]at P;exact P.ak
   |aQ v r=>rw[e]at P;exact aM.of (aeO R w z e P)
 |au l=>
  show kT P (λh P=>?_) λg P=>kT P (λh P=>?_) λg P=>fV P λh P=>?_
  ·cases f h;cases c;exact lC app P λv u r P=>aM.of (aeH R w z r P)
  ·cases f h;cases c;show lC app P λv u r P=>eE P λm e P=>?_;show oA (sk P) λhz P=>?_;show gq (42 i z w) λq apw aP apq W=>?_;show aM.of (UH (l:=l.et) (o':= .au (m.et++l)) R w q apq W r e (by rw[D.hP,D.lA]at hz;rw[D.lA];lia) (λV S=>⟨q,hz,_,V,?_⟩) P);rw[D.reverse_append,D.Sm];exact S
  ·cases f h;cases c;show BN app P λP=>?_;cases l with
   |aR=>exact P.ak
   |aQ=>exact aM.of (aeM R w z P)
 |bw l=>
  show fV P λh P=>?_;cases f h;cases c;show lC app P λv u r P=>?_;induction r using RV.cE with
  |Z j q apD=>
   show eE P λob A P=>?_;cases ob with
   |bw m=>exact fV P λc1 P=>fV P λc2 P=>fV P λc3 P=>fV P λc4 P=>aM.of (ahF R w z apD A (I.cz c1) (λe=>by subst e;rw[I.sv]at c2;cases c2) c3 c4 P)
   |_=>exact P.ak
  |_=>exact P.ak
 |eG b=>
  show fV P λh P=>?_;cases f h;cases c;clear c;show lC app P λv u r P=>?_;induction r using RV.cE with
  |ch m tk hm=>
   have P:10 ((gv (b.U+m.U) true F).aF λg F=> 277 (.eG (b++m))):=P;show oA (sk P) λhz P=>?_;show hV (42 i z w) λq apw e=>?_;show acH Y.j7 e hz λh' apE hs=>?_;have apA:=339 (.eG (b++m)) w hs (λB e2=>by rw[e]at e2;cases e2;rfl) ⟨q,by rw[D.hP];exact hz,apE⟩ s.a1;exact 267 14e9
  |_=>exact P.ak
 |_=>exact P.ak
universe e
universe e
section
open PySem PySem.W PyProof.Rows PySem.Calls PySem.Spec PySem.SeqAt
open Builtin hiding id
open Builtin.ObjectAttr Builtin.Getset_descriptor
set_option backward.match.sparseCases false
abbrev yN:2e5:=[22e7,22e5,6e9]
abbrev kp(C t:aI):aA:=(337 2e8 #[.N t,.L,.L,.L,33e5,.L])
inductive ahH (C:aI) (h:ai):Prop
 |mk (nm q:am) (apC:aI) (bs bm a2:D af) (k0 k1 k2 k3 k5:ar af) (hC:h.ao C=G (uq nm q C apC bs bm true [] a2 false L L k0 k1 k2 k3 k5 "Exception.__new__")) (aqT:(af.N C::bm).hW (.aB "Exception")=true)
  (aqU:(af.N C::bm).hW (.aB "object")=true) (aqV:(af.N C::bm).hW (.aB "AttributeError")=false) (aqW:(af.N C::bm).hW (.aB "NameError")=false) (pass:∀oF,refuseLoop oF "__setattr__" (.N C::bm)=b9 ()) (hm:bm=yN\/bm= .N 38::yN)
structure sC(C:aI)(h:ai):Prop where
 Z:ahH C h
 aC:∀oc od cd sl,h.ao C=G ⟨oc,od,.bj cd,sl⟩->cd.qu.hW (.aB "BaseException")=true/\cd.qu.hW (.aB "type")=false/\∀a,a≠38->cd.qu.hW (.N a)=I.bZ a C
section
variable{bc:gT}{w:eB}{A:dg}{E:af->ae->Prop}{s:ae}{C:aI}
def mE{α:Type}{C:20e2}{a:α}{l:8e4}(h:C a)(x:∀q∈l,C q):∀q∈a::l,C q:=λq s=>(48e5).ak (λe=>e▸h) (x q)
def mN{α:Type}{C:20e2}:∀q∈([]:8e4),C q:=λs h=>bL h D.mq
def yO{p:Prop}(h:p):∀q∈D.gj n p,q:=λq m=>(D.ahI m)▸h
def ahJ{Q₁:0e5}(apv:sC C s.M)(h:Q₁ 24e0 {s with M:=(332 u).b6 49e3}):
  uY 6e2 A (.aX 41e3 (61 [2e8,u])) (uZ Q₁ E) s:=by
 rcases apv.Z with⟨nm,q,apC,e,bm,a2,k0,k1,k2,k3,k5,x,_,_,_,_,_,hm⟩;clear apv;show codeAny_call_builtin_code (fS.Pz _ PySem.apu.MY.sT) (sW (v:=()) (s':=s) (ps:=D.gj 7 (s.M.ao C=G _)) (D.gj 7 (uq nm q C apC e bm true [] a2 false L L k0 k1 k2 k3 k5 "Exception.__new__")) (by rcases hm with h|h<;>subst h<;>kernel_rfl) (yO x) ?_);show PySem.codeAny_builtinAt PySem.apu.MY.entry ?_;unfold Builtin.«BaseException.__new__»;show PySem.wpAt_bind (PySem.wpAt_bind (PySem.wpAt_stack λp uG=>PySem.ahK (sW (v:= "Exception") (ps:=D.gj 0 kx) (s':=s) [] av (yO d2) (PySem.ahK ?_))));show sW (v:= .kz (.bk (.N (332 u).O.an))) (s':={s with M:=(332 u).b6 49e3})
  (ps:=D.gj 9 (s.M.ao C=G _)++D.gj 1 (((332 u).b6 49e3).ao C=G _)) (D.gj 10 (uq nm q C apC e bm true [] a2 false L L k0 k1 k2 k3 k5 "Exception.__new__")) (by rcases hm with h|h<;>subst h<;>kernel_rfl) (λq m=>(301 m) (yO x q) (yO (300 x) q)) ?_
 rw[ai.iO];exact h
def ahL{e t:aI}{u:af}{Q:0e5}(apv:sC C s.M)(a:36e9=G (kp C t))
  (h:∀h',(∀b o,b≠e->8e8=0e4->11e8=0e4)->(∃t,42e7=G (kp C t))->158 .L):41 (261 "Exception.__init__" [9e6,u]):=by
 rcases apv.Z with⟨nm,q,apC,p,bm,a2,k0,k1,k2,k3,k5,r,_,_,_,_,_,hm⟩;clear apv;show JO (UI PySem.apu.MY.jK.tj PySem.apu.MY.initEntry ?_);show sW (v:=()) (s':=s) (ps:=[36e9=G _,s.M.ao C=G _,36e9=G _,s.M.ao C=G _]) [kp C t,uq nm q C apC p bm true [] a2 false L L k0 k1 k2 k3 k5 "Exception.__new__",kp C t,uq nm q C apC p bm true [] a2 false L L k0 k1 k2 k3 k5 "Exception.__new__"]
  (by rcases hm with h|h<;>subst h<;>kernel_rfl) (mE a (237 r a (mE r mN))) ?_
 show sW (v:= .kz (.bk .L)) (s':={s with M:=(332 u).eN e (aA.t8 λx=>x.pY 0 9e9)})
  (ps:=D.gj 3 ((332 u).ao e=G _)) (D.gj 3 (kp C t)) av (yO (117 a)) ?_
 show h _ (λb o m k=>?_) ⟨s.M.O.an,258 (117 a) H⟩;rw[ai.t9 _ _ _ _ m];exact 117 k
universe e
section
abbrev vX(s:ai)(e:aI):ai:=(s.b6 52e3).eN e λo=>{o with bw:=G s.O.an}
def ahM{x:Fx}{s:ae}{A:dg}{E:0e5}{C e t:aI}{n:I}{u:af}{Q:17e3}(apv:sC C s.M)(apw:dR.In 36e4 s.M)(p:36e9=G (kp C t))
  (sa:iJ 36e4 2e8 "__setattr__" =G 55e3) (hn:iJ 36e4 2e8 4e6=G L)
  (h:∀h' i k hs tk m',(∀b o,b≠e->8e8=0e4->11e8=0e4)->i=s.M.O.an->42e7=G ⟨2e8,G i,.cp #[.N t,.L,.L,.L,33e5,.L],#[]⟩->
   h'.ao i=G (hK [⟨hs,141 tk,u⟩] m')->157 () k):aY 3e0 A (Tp 9e6 4e6 u) Q E s:=by
 obtain(⟨S,q,apC,apA,bm,a2,k0,k1,k2,k3,k5,m,W,R,_,_,V,_⟩):=apv.Z;clear apv;have apy:L1 s.M e (kp C t) C L:=⟨p,H,H,d2⟩;show set_plain apw apy sa ?_;obtain(⟨a,g,d,tk,os⟩):=s;have r:=PySem.apu.store_object;have hm:173 a (Ay 2e8) (2e8::bm):=λA Q E s' k q=>by
  obtain(⟨a,g,d,tk,os⟩):=s';exact ahN (k C _ m) q
 have z:173 a (su 9e6 6e9) true:=apy.aB.iY λA Q E s' k q=>by
  obtain(⟨a,g,d,tk,os⟩):=s';show UJ (k C _ m) ?_;rw[R];exact q
 have c:173 a (pZ 9e6) 2e8:=apy.aB;show UI r.slot.tj r.entry (@Tc 3e0 _ _ ⟨a,g,d,tk+1,os⟩ "object.__setattr__" "object" "__setattr__" 9e6 [141 tk,u] [] _ r.d9 r.split z (r.pn 9e6 (141 tk) u) ?_);rw[osa_eq,PySem.refuse_eq];show 169 (c.at (bg (hm.at ?_)));rw[V];show 292 (c.at (bg ((Ce apw hn).at (bg 20e3))));refine aY _ _ (afI 9e6 2e8 (141 tk) 4e6 u false) _ _ _;have j:(a.b6 52e3).ao e=G (kp C t):=117 p;have app:e≠a.O.an:=299 p;have P:(vX a e).ao e=G ⟨2e8,G a.O.an,.cp #[.N t,.L,.L,.L,33e5,.L],#[]⟩:=258 j H;have w:(vX a e).ao a.O.an=G (hK [] 0):=(ai.t9 _ _ _ _ (Ne.bi app)).aV 10e0;have l:((vX a e).eN a.O.an (aA.yx 4e6 41e8 (141 (tk+1)) u)).ao a.O.an=G (hK [⟨41e8,141 (tk+1),u⟩] 1):=258 w H;show sW (v:= .kz (.bk .L)) (s':=⟨(vX a e).eN a.O.an (aA.yx 4e6 41e8 (141 (tk+1)) u),g,d,tk+2,os⟩)
  (ps:=[a.ao e=G _,a.ao C=G _,(a.b6 52e3).ao e=G _,(vX a e).ao a.O.an=G _,(vX a e).ao a.O.an=G _,ai.ao _ a.O.an=G _])
  [kp C t,uq S q C apC apA bm true [] a2 false L L k0 k1 k2 k3 k5 "Exception.__new__",kp C t,hK [] 0,hK [] 0,hK [⟨41e8,141 (tk+1),u⟩] 1] av (237 p m (237 j w (237 w l mN))) ?_
 show h _ _ _ _ _ _ (λb o apq f=>?_) H ?_ l
 ·exact(ai.t9 _ _ _ _ (299 f)).aV ((ai.t9 _ _ _ _ apq).aV (117 f))
 ·exact(ai.t9 _ _ _ _ app).aV P
universe e
universe e
section
open PySem PySem.W PyProof.Rows PySem.Calls PySem.Spec PySem.SeqAt
open Builtin hiding id
set_option backward.match.sparseCases false
structure ur(C:aI):Prop where
 bj:∀(h:ai) P,hb h (KL P)->sC C h
 LY:∀P,iJ (KL P) (.N C) "__init__" =G (G (.N 35))
 fn:∀P,yt (KL P) (.N 35)=G (.aB "function")
 sa:∀P,iJ (KL P) (.N C) "__setattr__" =G (G (.bJ "object.__setattr__"))
 why:∀P,iJ (KL P) (.N C) (nm 58)=G L
 cd:∀P,∃cd,uc (KL P) C=G cd/\cd.yv=true
 gx:∀P,iJ (KL P) (.N C) "__getattr__" =G L
 ga:∀P,iJ (KL P) (.N C) "__getattribute__" =G (G (.bJ "BaseException.__getattribute__"))
def CA{α:Type}{apB:iB}{h:ai}{t:9e4}{r:α}(x:∀(A:dg) (Q:14e6) (E:0e5) (e:ai) g d tk os,(∀b o,h.ao b=0e4->e.ao b=0e4)->Q r ⟨e,g,d,tk,os⟩->aY apB A t Q E ⟨e,g,d,tk,os⟩):e7 apB h t r:=
 λA Q E s k q=>by obtain(⟨e,g,d,tk,os⟩):=s;exact x A Q E e g d tk os k q
section
variable{x:Fx}{J aC:aW}{F:MS}{s:ae}{h0:ai}
def aK.UK(R:0e9)(l:∀a∈dT p,¬14e2/\¬fr x a/\¬FA x a/\lx<=a)(g:∀a∈dT p,∃ob,4e4=G ob/\(∀xs n,ob.bf≠ .cH xs n)/\∀b n,ob.bf≠ .qs b n)
  (hc:∀k v c,(41e5=18e8\/41e5=23e5)->19 F.T=2e4->x.ab.b3.bY 5e5=G c->c∉24e3) (hn:(24e3).dX) (oX:f8 J (J++[p]) s.M s.M->RO x.w (J++[p]) s.M p o):167 J [p] ⟨F.O++[o],F.T,F.bG⟩ s:=by
 have j:∀a,69 (J++[p])->14e2\/a∈24e3:=λa h=>(jv.mp h).f5 id tX.mp;have t:∀a ob,4e4=G ob->((∃xs n,ob.bf= .cH xs n)\/∃b n,ob.bf= .qs b n)->¬14e2->¬69 (J++[p]):=λa ob e q no h=>(j a h).ak no λz=>by
  show dU (g a z) λapE app n1 W=>?_;rw[e]at app;cases app;rcases q with⟨xs,n,q⟩|⟨xs,n,q⟩
  ·exact n1 _ _ q
  ·exact W _ _ q
 have bS:f8 J (J++[p]) s.M s.M:=by
  show⟨λa aP e=>e,λa aP e no=>⟨e,?_⟩,λa b n e no=>⟨e,t a _ e 19e7 no⟩,λi q e=>⟨q,by rw[379 e];exact e,H⟩,λf f e=>e⟩;(show gF e λob P c n dd=>?_;try clear e);exact t a ob P (.a4 ⟨_,_,dd⟩) no
 show⟨R.d8,by simp[R.cU],λi V q e1 e2=>?_,?_,λa w=>(j a w).ak (R.gz a) λz=>(l a z).2.2.2,λa w=>(j a w).ak (R.up a) λz=>(by show aN (g a z) λob e f=>?_;exact 9e1),⟨?_,λk v a b=>?_⟩,λa w h=>(j a h).ak (R.bI a w) λz=>(l a z).2.1 w,R.hM,R.b3,R.hw,R.gD,λa w=>⟨(122 w).1,λh=>(j a h).ak (122 w).2 λz=>(l a z).2.2.1 w⟩,R.dD,R.os,R.cW⟩
 ·by_cases d:i<F.O.U
  ·rw[D.kR d]at e1;rw[D.kR (R.cU▸d)]at e2;exact sf bS (λa f o e=>e) (R.O i V q e1 e2)
  ·have h1:=(118 e1);rw[D.hP,D.RY]at h1;have apw:i=F.O.U:=by exact I.aeu h1 d
   clear h1;subst apw;rw[28e3,I.jl]at e1;rw[<-R.cU,28e3,I.jl]at e2;cases e1;cases e2;exact oX bS
 ·rw[D.aev,D.RZ];show⟨R.nd,by simpa using hn,λa w b apD e=>?_⟩;subst e;show aN (D.Lh.mp w) λq apA S=>?_;exact(l a (by simpa using apD)).1 ⟨q,apA,S⟩
 ·obtain⟨m,hm,apq⟩:=R.bq.iP;show(314 hm);show aN (apq k v a b) λu e r=>?_;exact⟨u,e,30e3⟩
 ·obtain(⟨c,u,e1,e2,r,no⟩):=201 k v b;show aN (id e2) λob P dd=>?_;exact⟨c,u,e1,e2,30e3,λh=>(j c h).ak no (hc k v c a b e1)⟩
def aK.vY(R:0e9)(m:∀a∈dT p,o6 x J s.M a/\∃ob,4e4=G ob)(n:(24e3).dX)(w:f8 J (J++[p]) s.M s.M->RO x.w (J++[p]) s.M p o):167 J [p] ⟨F.O++[o],F.T,F.bG⟩ s:=
 R.UK (λa r=>⟨(m a r).1.d3,(m a r).1.fr,(m a r).1.fa,(m a r).1.j0⟩) (λa r=>(by show sO (m a r) λA ob e=>?_;exact⟨ob,e,(A.cp ob e).1,(A.cp ob e).2.1⟩)) (λk v c a b e h=>by
  obtain(⟨i,u,e1,⟨ob,q,dd⟩,_⟩):=201 k v b
  rw[e]at e1;cases e1
  exact((m c h).1.cp ob q).2.2.1 _ dd) n w
def Kp.vY(apv:56 J x h0 s.M)(b:∀a∈dT p,46e3=L):Kp J (aC++[p]) x h0 s.M:=
 ⟨apv.bS,apv.ju,apv.iW,apv.g7,λa e=>(jv.mp e).ak (apv.fm a) λh=>b a (tX.mp h)⟩
universe e
def MZ(hd:o.bf= 27e1)(h:o.bj= 2e8):uh o:=by
 show⟨λs s e=>?_,λs s e=>?_,λs e=>?_,?_⟩
 ·rw[hd]at e;cases e
 ·rw[hd]at e;cases e
 ·rw[hd]at e;cases e
 ·unfold ix;rw[hd,h];rfl
def UL:uh (hK es n):=⟨λs s e=>(nomatch e),λs s e=>(nomatch e),λs e=>(nomatch e),H⟩
def qd:Ih:=λtk F=>match tk with
 | .x (.l n)=>(mI F.T n 1000 F).aF λv F=> 7 (.v v)
 |_=> .no 0
def CB{n:I}{F:MS}:ck qd (.l n) F=mI F.T n 1000 F:=by
 unfold ck qd mI;dsimp only;cases lk F.T n<;>rfl
def CD{d:I}{id:am}{k:I}(s:hy id k=true)(h2:147 sc id=true):PX qd d sc (174 aU) (.l k):=λF=>by
 rw[CB];exact Sn s h2
def ahO{d:I}{e:cD}{id:am}{aU:dA}{k:I}{v:af}(m:hy id k=true)(h2:ew e id .lB=true)(n:19 gl=G (.aa v)){x:Fx}{J:aW}{F:MS}{s:ae}{Q:0e5}{EE:0e5}(Y:3e6)(b:x.ab.bt=e)(R:0e9)
  (h:∀aC s',207 F->38e5->Q v s'):26 (233 (174 aU)):=by
 show yk (d:=d) (F:=F) (aU:=aU) m h2 x J s _ EE Y b R ?_;unfold mI;rw[n];show⟨λw h=>(nomatch h),λaC s' u a p r=>?_⟩;cases r;exact h aC s' a p
def ahP:findCls [] 22e7 46e6 (nm 166)=G (.oT (.bJ "Exception.__init__")):=av
def ahQ{x:Fx}{J:aW}{F:MS}{s:ae}{r:b5 al}{Q:af×2e5->ae->Prop}{EE:0e5}(R:0e9)(h:Q (.bJ "Exception.__init__",[]) 42e0):97 (Ma 22e7 (nm 166) r):=by
 obtain⟨m,hm,_⟩:=R.bq.iP;exact PySem.W.method_type (apv:=[]) (h₀:=nu) ⟨hm,λb o e=>19e2,31e7⟩ (λa o e=>19e2) H 9e8 ahP H h
def ahR:D dA:=[⟨8,8,8,17⟩,⟨8,8,8,26⟩,⟨8,27,8,31⟩,⟨8,33,8,36⟩,⟨8,8,8,37⟩,⟨8,8,8,37⟩,⟨9,8,9,12⟩,⟨9,8,9,16⟩,⟨9,19,9,22⟩,⟨9,8,9,22⟩]
def fM(i:I):dA:=(ahR[i]?).ge ⟨0,0,0,0⟩
def M0(s:cD)(B:11e1):Prop:=B=[.a0 (.jT (.kP (191 165 0) (nm 166) (fM 1)) [191 164 2,191 58 3] [] (fM 4)) (fM 5),.pQ [.kP (191 164 6) 20e5 (fM 7)] (191 58 8) (fM 9)]/\
 ew s (nm 165) .lB=true/\147 s (nm 164)=true/\147 s 20e5=true/\yF s (.kP (191 164 6) 20e5 (fM 7)) (191 58 8)=G L
def ahS{d:I}{x:Fx}{J:aW}{s:ae}{F:MS}{h0:ai}{C e t:aI}{v:V}{B:11e1}{apz:cD}{Q:34e6}{EE:0e5}(apv:ur C)(hB:M0 apz B)(Y:3e6)(f:x.ab.bt=apz)
  (R:0e9) (jA:lk F.T 164=G (5 e)/\lk F.T 58=2e4) (W:Wr x J s.M [e]) (he:36e9=G (kp C t)) (UM:h0.ao e=L) (K0:Kp J [] x h0 s.M)
  (h:∀aC s' bR n t hs tk m' u,207 bR->bR.O=F.O->bR.bG=F.bG->56 J x h0 s'.M->Wr x (J++aC) s'.M [e,n]->h0.ao n=L->e≠n->s'.M.ao e=G ⟨2e8,G n,.cp #[.N t,.L,.L,.L,33e5,.L],#[]⟩->
   s'.M.ao n=G (hK [⟨hs,.ag 20e5 tk,u⟩] m')->RV (J++aC) s'.M v u->Q .bA s'):26 (mj B x.ab):=by
 (show zu hB λM1 k1 k2 k3 aqi=>?_;try clear hB;subst M1);have hp:((fM 1).Mb==(fM 4).iH)=true:=av;have okN:∀k,k<261->hy 5e5 k=true->hy 5e5 k=true:=λj j h=>h;have n1:hy (nm 165) 165=true:=by decide+ci
 have n2:hy (nm 164) 164=true:=by decide+ci
 have n3:hy 20e5 58=true:=by decide+ci
 have P:∀{apw aC:aW} {aS:MS} {s1 i:ae},aK x apw aS s1->Wr x apw s1.M [e]->56 apw x s1.M i.M->Wr x (apw++aC) i.M [e]/\∀o,s1.M.ao e=0e4->i.M.ao e=0e4:=λapq W1 apD=>by
  have z:=W1.km apq H apD;exact⟨z.1,λo m=>z.2 e (D.dQ ..) o m⟩
 show 51e6;show 27e5;rw[aga,TC Y,Cn H];show 44 29e0;show 27e5;rw[Ty,yA H];show iL (ahO n1 k1 H Y f R λp s1 apq apD j=>?_);show oA (P R W apD) λW1 e1=>?_;clear W;show 25e5;have hE:cJ (kU qd d apz) [191 164 2,191 58 3] [28e1,35e3]:= 327 ⟨H,CD n2 k2⟩ ⟨H,CD n3 k3⟩;unfold TA;rw[show Cj (D.U [PySem.a0.dr (nm 164) (fM 2),PySem.a0.dr 20e5 (fM 3)]+([]:D Tz).U) (145 (fM 4) [PySem.a0.dr (nm 164) (fM 2),PySem.a0.dr 20e5 (fM 3)] x.ab) (L7 (fM 4) (L8 [] x.ab))=true from H];show 184 (ahQ apq ?_);have ahT:∀{Q:138 dA} {s},Q (fM 4) s->26 (Cm true (191 165 0) x.ab (fM 1) (fM 4)):=by
  intro Q s h;unfold Cm;rw[hp];exact bH h
 show aZ (ahT ?_);have UN:=apq.a1 (s1.a1+1);show ue (Ch hE) (vL hE F x _ _ _ EE Y f UN ?_);have ev:ke qd [28e1,35e3] F= 125 [5 e,v] F:=by
  have e1:ck qd 28e1 F= 7 (5 e):=by rw[CB];unfold mI;rw[jA.1];rfl
  have e2:ck qd 35e3 F= 21e8:=by rw[CB];unfold mI;rw[jA.2];rfl
  refine(ck qd 28e1 F).aF (λa F=>((ck qd 35e3 F).aF λb F=>(Internal.R.Y [] F).aF (317 (b::vs))).aF (317 (a::vs)))=_;rw[e1,qY,e2];rfl
 rw[ev];clear ev;show⟨λj h=>(nomatch h),λm2 i us R2 K2 r2=>?_⟩;(show jB (ahq r2.1) λj j yP ra rv=>?_;subst yP);clear r2;cases ra;show⟨⟨.ud,15e6,.qW H⟩,?_⟩;show oA (P UN W1 K2) λE e2=>?_;clear W1;have UO:=e2 _ (e1 _ he);clear e1 e2 he;show aM.of (ahL (apv.bj _ _ R2.d8) UO λh3 yM ⟨t3,apE⟩=>?_);clear UO;have K1':Kp J p x h0 s1.M:=by
  have a:=K0.aV (m2:=p) (h2:=s1.M) (297 apD);rwa[D.uS]at a
 have K2':Kp J (p++m2) x h0 i.M:=K1'.aV K2;have R3:aK x (J++p++m2) F {i with M:=h3}:=R2.hR (wr:=[e]) (λa r=>(E a r).1) (λb o app=>yM b o (λq=>app (D.cZ.bn q))) i.a1;have K3:Kp J (p++m2) x h0 h3:=K2'.hR (wr:=[e]) (401 UM) (λb o app=>yM b o (λq=>app (D.cZ.bn q)));clear yM;have W3:Wr x (J++p++m2) h3 [e]:=λa r=>by
  have A:=(E a r).1;clear E;rw[44e9]at A⊢;exact⟨⟨A.d3,A.fr,A.fa,A.j0,λo m=>by rw[apE]at m;cases m;exact MZ H H⟩,_,apE⟩
 show aM.of (agb ?_);show 51e6;show 27e5;show 54e5;show 25e5;rw[show Mo [PySem.a0.kP (191 164 6) 20e5 (fM 7)] (191 58 8) (fM 9).iH x.ab=TB (191 58 8) (G (PySem.a0.kP (191 164 6) 20e5 (fM 7))) (fM 9).iH x.ab from H,Cn H];show 29e0;rw[d6 aq];have UP:∀k v,19 F.T=2e4->ck qd (.l k) F= 125 v F:=λk v hv=>by
  rw[CB];unfold mI;rw[hv];rfl
 show aZ (CD n3 k3 F x _ _ _ EE Y f R3 ?_);rw[UP 58 v jA.2];show⟨λj h=>(nomatch h),λg aqj u4 apt K4 r4=>?_⟩;show oA (P R3 W3 K4) λW4 e4=>?_;clear W3;rw[Mk aqi f,yG H];show 29e0;refine aM _ _ (do rG (.kP (191 164 6) 20e5 (fM 7)) x.ab u4;b9 iM.bA) _ _ _;show 27e5;show 23 (agD ..);show 91 (CD n2 k2 F x _ _ _ EE Y f apt ?_);rw[UP 164 _ jA.1];clear jA;show⟨λj h=>(nomatch h),λapA c u5 w apB r5=>?_⟩;cases r5;show oA (P apt W4 apB) λapr e5=>?_;clear P W4;have apu:=e5 _ (e4 _ apE);clear e4 e5 apE;have UQ:=apt.rv apB r4;have UR:Kp J (p++m2++g++apA) x h0 c.M:=by
  have a:=K3.aV (m2:=g) (h2:=aqj.M) (385 K4);exact a.aV (by simp only[<-D.eP];exact apB)
 have aqk:J++p++m2++g++apA=J++(p++m2++g++apA):=by simp only[D.eP]
 rw[aqk]at w apr UQ;show 44 (184 (ahM (apv.bj _ _ w.d8) (st w.d8) apu (apv.sa _) (apv.why _) λh6 n k6 hs tk m' US aps apC apF=>?_));show aM.of (vJ (aM.of (bX (aM.of (zN ?_)))));have apx:e<c.M.O.an:=ai.cQ apu;clear apu;have qU:e≠n:=λq=>by rw[<-aps,<-q]at apx;exact I.lP _ apx
 clear apx;have l:=(apr e (D.dQ ..)).1;clear apr;have apy:∀b o,b∉ [e]->c.M.ao b=0e4->h6.ao b=0e4:=λb o app=>US b o (λq=>app (D.cZ.bn q));clear US;have R6:=w.hR (wr:=[e]) (401 l) apy k6;have K6:=UR.hR (wr:=[e]) (401 UM) apy;show h (p++m2++g++apA) {c with M:=h6,a1:=k6} F n _ hs tk m' u4 R6 H H K6 (λa r=>?_) ?_ qU apC apF ?_
 ·rcases 48e6 with H|r
  ·exact⟨⟨l.d3,l.fr,l.fa,l.j0,λo m=>by rw[apC]at m;cases m;exact MZ H H⟩,_,apC⟩
  ·rw[44e9];clear h;have S:c.M.O.an<=n:=I.h8 aps.bi;exact⟨⟨λq=>31 (w.up _ q) S,λq=>31 (w.m9 _ q) S,λq=>31 (w.tW _ q) S,I.dV w.j0 S,λo m=>by rw[apF]at m;cases m;exact UL⟩,_,apF⟩
 ·exact uj UR (I.h8 aps.bi)
 ·show dP ?_ UQ;exact w.MP (401 l) apy
def ahU{d:I}{C:aI}{v:V}{F:MS}{fn:Fn}{fd:jD}{B:11e1}(apv:ur C)(apu:yp 35 fn fd B)(apy:fn.ps=[164,58])(hB:M0 fd.bt B):
  JC (d+1) (5 C) [v] F (F.jp (.a8 C [(58,v)])):=by
 intro x J s u us Q EE Y R ru rs P;cases ru;(show aN (MU rs) λh apz rv=>?_;subst apz);clear rs;have apw:=st R.d8;have KC:=apv.bj _ _ R.d8;obtain(⟨aqX,q,apC,bs,bm,a2,k0,k1,k2,k3,k5,i,hcB,hcO,hcA,hcN,pass⟩):=id KC.Z;have tT:173 s.M (pZ 2e8) 46e6:=(e7.ld i).iY .o3;have LQ:173 s.M (Cc 2e8 "__call__") (G 55e5):=tT.iY (f:=λt=>po t "__call__") (.qW PySem.tc_lookup);have LR:173 s.M (su 2e8 46e6) true:=tT.iY (f:=λt=>lN t 46e6) (.qW PySem.tc_sub);have LT:173 s.M (Ay 2e8) (2e8::bm):=CA λA Q E W g d tk os k q=>ahN (k C _ i) q;have LV:173 s.M (Bind.madeBy 2e8) (G "Exception.__new__"):=CA λA Q E W g d tk os k q=>wpAny_madeBy_exc (k C _ i) q;have ahV:173 s.M (lN 2e8 2e8) true:=CA λA Q E W g d tk os k q=>by
  show UJ (k C _ i) ?_;have:(af.N C::bm).hW 2e8=true:=by simp
  rw[bb];exact q
 have hi:=Ce (apB:=3e0) apw (apv.LY x.w.bV);have w:(x.A.hG (384 [h])).dY=x.A.dY:=by rw[nV]
 show Tb (jK:=35) (Q₁:=λZ s₁=>Z= 24e0/\s₁={s with M:=(332 h).b6 49e3}) ⟨_,_,_,_,i⟩ LQ LR LT H LV (ahJ KC 15e2) ?_;intro Z s₁ apq;(show oA apq λM1 apz=>?_;try clear apq;subst M1;subst apz);generalize apE:(s.M.b6 {bj:= .aB "tuple",bf:= .cH #[h]}).b6 (kp C s.M.O.an)=h1;have k:∀b o,8e8=0e4->h1.ao b=0e4:=λb o e=>by rw[<-apE];exact 300 e
 have hx:h1.ao (181 1)=G 49e3:=by
  rw[<-apE];have:=ai.fG (332 h) (o:=49e3) H;rwa[ai.iO]at bb
 have hz:h1.O.an=s.M.O.an+2:=by rw[<-apE,ai.iO,ai.iO]
 have t1:173 h1 (pZ 24e0) 2e8:=(e7.ld hx).iY .o3;have aql:dR.In 36e4 h1:=apw.eI k;have nI:173 h1 (su 24e0 2e8) true:=t1.iY (f:=λt=>lN t 2e8) (ahV.eI k);show⟨nI.eT 15e2,(show 173 h1 (Cc 24e0 "__init__") (47 35)from t1.iY (f:=λt=>po t "__init__") (hi.eI k)).eT 15e2,(bind_fn aql _ (apv.fn x.w.bV)).eT 15e2,?_⟩;have apC:=R.jy k s.a1;have Ca:=Y.g9;have Cb:=Y.jd;have yQ:(380 [h]).Ok d:=by
  obtain(⟨o1,o2,aqm,o4,aqY,aqZ,o7,aqn,aqo,o10⟩):=Y;show⟨o1,o2,aqm,o4,?_,?_,?_,?_,?_,o10⟩
  ·refine(31e0).g9+_+_<_;rw[nV];refine x.A.g9+1+_+_<_;lia
  ·refine(31e0).jd+_+_<_;rw[nV];refine x.A.jd+1+_+_<_;lia
  ·refine(31e0).e9=_;rw[nV];exact o7
  ·refine(31e0).j7=_;rw[nV];exact aqn
  ·refine∃l,(31e0).dY=_/\_;rw[w];exact aqo
 have jA:fn.ps.fx ([V.aa 24e0,v]++fn.jr [V.aa 24e0,v].U)=[(164,5 (181 1)),(58,v)]:=by rw[apy];rfl
 have hlen:([V.aa 24e0,v]++fn.jr [V.aa 24e0,v].U).U=fn.ps.U:=by
  have:(fn.jr 2).U=0:=by
   unfold Fn.jr;rw[apy];simp
  rw[D.hP,apy];refine 2+(fn.jr 2).U=2;rw[bb]
 have aqp:=(aK.wA w).bn apC.1;show LO (d:=0) (x:=380 [h]) (as:=[5 (181 1),v]) apu hlen yQ (by refine(31e0).g9+_+_+_<_;rw[nV];refine x.A.g9+1+_+_+_<_;lia) (by refine(31e0).jd+_+_+_<_;rw[nV];refine x.A.jd+1+_+_+_<_;lia) aqp (327 14e9 (dP (je k) rv)) λab s2 hL hf n5 gK UT Cw hz2 ok2 apF zz=>?_;rw[jA]at apF;have ys:lx<=s.M.O.an:=R.j0;have apr:=Cw _ _ hx;have apA:s.M.ao (181 1)=L:=ai.tV 37e8;have apx:ab.cY=s.M.O.an+2:=hL.aV hz;have frE:∀a,a<ab.cY->¬fr (em (380 [h]) ab) a:=by
  intro a r apq;rcases apq with H|⟨_,n,S⟩
  ·exact I.lP _ r
  ·exact I.lt_asymm r (gK n a S)
 have W2:Wr (em (380 [h]) ab) J s2.M [s.M.O.an+1]:=λa r=>by
  rw[44e9];show⟨⟨R.Lj apA,frE _ (by rw[apx];exact 40e5),λq=>?_,I.dV ys 37e8,λo eo=>by rw[apr]at eo;cases eo;exact MZ H H⟩,_,apr⟩;rcases(B6 (x:=380 [h]) UT).mp q with q|q
  ·rw[hf]at q;have e:s.M.O.an+2=s.M.O.an+1:=apx.bi.aV (ar.G.cF q);lia
  ·rw[LX w]at q;exact 31 (R.tW _ q) 37e8
 have k02:∀b o,8e8=0e4->s2.M.ao b=0e4:=λb o e=>Cw b o (k b o e);show ahS (d:=0) (C:=C) (v:=v) (h0:=s.M) apv hB ok2 n5 apF 15e2 W2 apr apA (Le k02 (by intro a zr1;(show aN zr1 λp W zz=>?_;try clear zr1);exact nomatch W)) λaC app c m t hs tk m' aqq R3 UU hr3 K3 aps apt qU he3 hd3 rv3=>?_;show⟨H,?_⟩;have hL2:s.M.O.an<=ab.cY:=by rw[apx];lia
 show oA (aK.B7 (s1:=s) ((aK.wA w).bn R) hL2 hf gK UT (λa o e=>e) 11e7 R3 K3) λj z=>?_;clear R3 K3;have j:=(aK.wA w).mp j;have z:=(Kp.wA w).mp z;have AW:∀a∈dT (s.M.O.an+1,[m]),o6 x (J++aC) app.M a/\∃ob,app.M.ao a=G ob:=λa r=>by
  show sO (aps a (by simpa [dT]using r)) λA ob e=>?_;clear aps;have S:4e4=L:=Bx r apA apt;exact⟨⟨A.d3,λq=>(R.vG a q).ak λo e=>(nN (S.bi.aV e)),λq=>(R.vH a q).ak λo e=>(nN (S.bi.aV e)),A.j0,A.cp⟩,ob,e⟩
 have apD:=j.vY (p:=(s.M.O.an+1,[m])) (o:= .a8 C [(58,v)]) AW (by simp[dT,qU]) (λbS=>?_)
 ·have K5:=z.vY (p:=(s.M.O.an+1,[m])) λa r=>Bx r apA apt;clear AW z;have hm:aC=[]:=by
   have h1:=j.cU;clear j;have h2:=R.cU;rw[D.hP]at h1;have h3:(⟨c.O,F.T,c.bG⟩:MS).O.U=F.O.U:=by refine c.O.U=_;rw[UU]
   rw[h3]at h1;exact D.J4.mp bN
  subst hm;have e1:c.O=F.O:=UU;have e2:c.bG=F.bG:=hr3;rw[D.dZ]at apD;rw[D.uS]at K5;have apD:167 J [(s.M.O.an+1,[m])] ⟨F.O++[.a8 C [(58,v)]],F.T,F.bG⟩ app:=by rw[<-e1,<-e2];exact apD
  show P.2 [_] app _ apD K5 (.Z _ (s.M.O.an+1,[m]) ?_);rw[<-R.cU,28e3,I.jl];rfl
 ·exact⟨(by refine 1<=1000;lia),m,[],_,m',_,#[],H,he3,hd3,266 ⟨25e1,dP bS rv3⟩,H,.a4 15e2⟩
set_option backward.match.sparseCases true
section
variable{apB:iB}{A:dg}{E:af->ae->Prop}{s:ae}{C:aI}
structure vZ(apB:iB)(h:ai)(C:aI):Prop where
 typ:e7 apB h (pZ (.N C)) (.aB "type")
 Cf:e7 apB h (lN (.N C) (.aB "BaseException")) true
 bj:∃o cd,h.ao C=G o/\o.bf= .bj cd
 a2:∀a,a≠38->e7 apB h (lN (.N C) (.N a)) (I.bZ a C)
def sC.CE(apv:sC C h):vZ apB h C:=by
 obtain(⟨w,q,apC,u,bm,a2,k0,k1,k2,k3,k5,s,r,v,n,p,m,_⟩):=apv.Z;show hV (apv.aC _ _ _ _ s) λb m2 e=>?_;have a2:∀apw,e7 apB h (lN 2e8 apw) ((af.N C::bm).hW apw):=λapw=>CA λA Q E i g d tk os k q=>UJ (k C _ s) q;show⟨(e7.ld s).iY .o3,?_,⟨_,_,s,H⟩,λa x=>?_⟩
 ·have:=a2 22e5;rwa[show(af.N C::bm).hW 22e5=true from b]at bb
 ·have:=a2 2e2;rwa[show(af.N C::bm).hW 2e2=I.bZ a C from e a x]at bb
def M2(s:14e4=0e4):e7 apB h (isType 2e2) (match o.bf with| .bj _=>true|_=>false):=
 (e7.ld (vi:=G headPart) s).iY .o3
def ahW(apt:vZ apB h C):e7 apB h (M3 2e8) true:=by
 unfold M3;show gd apt.bj λo cd s hd=>?_;have z:=M2 (apB:=apB) s;rw[hd]at z;exact z.iY (f:=λb=>if b=true then lN 2e8 22e5 else 42e2) apt.Cf
def ahX{Q:0e5}(apt:vZ apB s.M C)(x:36e9=G oe)(a:oe.bj= 2e8)(hd:oe.bf= 27e1)(h:Q 9e6 s):68 (M4 9e6 m):=by
 have t:e7 apB s.M (pZ 9e6) 2e8:=a▸(e7.ld x).iY .o3;have e1:e7 apB s.M (M3 9e6) false:=by
  unfold M3;have z:=M2 (apB:=apB) x;rw[hd]at z;exact z.iY (f:=λb=>if b=true then lN 9e6 22e5 else 42e2) .o3
 have e2:e7 apB s.M (su 9e6 22e5) true:=t.iY (f:=λt=>lN t 22e5) apt.Cf;unfold M4;show cL (e1.eT λr=>?_);show 35e2 <|?_;show cL (e2.eT λr=>?_);show pc H <|?_;exact 22e2
def ahY{Q:0e5}(apt:vZ apB s.M C)(x:36e9=G oe)(a:oe.bj= 2e8)(h:Q 9e6 s):68 (UV 9e6):=by
 have t:e7 apB s.M (pZ 9e6) 2e8:=a▸(e7.ld x).iY .o3;unfold UV;show bg (t.eT (bg (apt.typ.eT ?_)));show pc aq <|?_;exact 22e2
def ahZ{Q:28e9}(apt:vZ apB s.M C)(x:vZ apB s.M a)(r:a≠38)(b:36e9=G oe)(k:oe.bj= 2e8)(h:Q (I.bZ a C) s):68 (excMatches 9e6 2e2):=by
 have t:e7 apB s.M (pZ 9e6) 2e8:=k▸(e7.ld b).iY .o3;have m:e7 apB s.M (su 2e2 26e5) false:=x.typ.iY (f:=λt=>lN t 26e5) (.qW PySem.tc_notTuple);unfold excMatches;show cL (m.eT λp=>?_);show 35e2 <|?_;show cL (bX λp=>?_);simp-fu only[D.AM,D.forIn_nil];show bg (169 ((ahW x).eT ?_));simp-fu only[al.not_true,al.zL,zM];show bX (292 (t.eT (169 (bg ((apt.a2 a r).eT ?_)))));cases n:I.bZ a C<;>rw[n]at h
 ·show 35e2 <|?_;exact bX (bX 22e2)
 ·show pc H <|?_;exact bX (bX 22e2)
universe e
set_option backward.match.sparseCases false
def UW:∀{l:1e0} {i:I} {o:aps},l[i]? =0e4->my l i o=l
 | [],_,_,e=>by simp at e
 |app::l,0,o,e=>by cases e;rfl
 |app::l,i+1,o,e=>by
  have:=UW (l:=l) (i:=i) (o:=o) e;refine app::my l i o=_;rw[bb]
section
variable{x:Fx}{J:aW}{F:MS}{s:ae}{Q:ez->ae->Prop}{EE:af->ae->Prop}{A:dg}
def M5{i:I}{p:9e3}{C:aI}{d:0e1}{fr:ar aI}(R:0e9)(r:J[i]? =5e1)(v:22e0 =G (.a8 C d))
  (h:∀h',230 F 35e9->32e2->158 ()):aY 3e0 A (sp 7e2 fr) Q EE s:=by
 obtain(⟨g,u,aD,es,n,vs,sl,w,g1,g2,g3,t,j⟩):=42 i v r;unfold sp;rcases j with⟨hr,h1⟩|⟨tb,P,apq,hr,h1,h2,h3,a,m⟩
 ·show cL (hH g1 H h1 λo=>?_);show 35e2 <|?_;exact bX (h s.M R (Kp.b8 ..))
 ·show cL (hH g1 H h1 λo=>?_);show pc (show(af.N tb !=af.L)=true from by simp) <|?_;show u6 h2 a (by exact I.LJ m) ?_;generalize(fr.ak af.L λf=>iE f)=app;have z:p.1≠tb:=λq=>by
   rw[q]at g1;rw[g1]at h2;cases h2;cases h3
  have c:u≠tb:=λq=>by
   rw[q]at g2;rw[g2]at h2;cases h2;cases a
  have l:tb∈24e3:=by unfold dT;rw[w,hr];simp
  have b:168 tb (374 (·.pY 3 app)):=ai.fA.eN ..;have apA:=R.na (o':= .a8 C d) r l b (λq e=>by rw[h2]at e;cases e;unfold ix;rw[h3,a];rfl) (h':=374 (·.pY 3 app)) (λk=>⟨g,u,aD,es,n,vs,sl,w,(b.2 _ z).aV g1,(b.2 _ c).aV g2,xZ k g3,t,.aE ?_⟩) s.a1
  ·have e:F.cN i (.a8 C d)=F:=by unfold MS.cN;rw[UW v]
   rw[e]at apA;exact h _ apA.1 apA.2
  ·obtain(⟨oc,W,dt,S⟩):=P;simp only at h3 a;subst h3 a;exact⟨tb,_,_,hr,h1,258 h2 H,H,H,by simpa using m⟩
universe e
def ExF:Prop:=∀C,xD C=true->ur C
section
variable{d:I}{sc:cD}{F:MS}
def ah0(hX:ExF)(h:43 E ra):JS d sc (.Bn (G E) L aU) F (ra.aF λv bR=>gO v 140 λi=>gB (I.g6 F.O.U i) 150 (gN (bR.dL i) 150 λo=>A4 o i bR)):=by
 intro x J s Q EE Y f hz S R P;show 23 (arm_exec_Raise ..);show iL (eM λb=>?_);refine aM _ _ (do
  let xv<-(do let v<-27e8;ky aU;b9 v)
  let cv<-(b9 L:b5 12e4)
  let e<-gr cv.gi (M4 xv "exceptions must derive from BaseException")
  if let G cv:=cv then
   let c<-if cv== .L then b9 .L else gr [e] (M4 cv "exception causes must derive from BaseException")
   SR e 3 c
   SR e 4 (22e6)
  let e<-if<-isType xv then gr [e] (raisedFor xv e)else UV e
  sp e L
  JV e) _ _ _
 show iL (aZ (h x J s _ EE Y f R (P.yI λv aS q s1 u1 m j r1 a=>44 (bH λb=>?_))));show iL (bH λb=>?_);show La r1 a λi p r a=>fV a λz a=>eE a λo k a=>?_;cases o with
 |a8 C dd=>
  show fV a λt a=>?_;have apv:=(hX C t).bj _ _ m.d8;have apt:=apv.CE (apB:=3e0);have w:=I.cz z;rw[<-R.cU]at w;obtain(⟨_,apA,aD,es,n,vs,sl,apq,g1,_⟩):=m.O i _ p k r;show iL (349 (ahX apt g1 H H λb=>?_));have app:=M2 (apB:=3e0) g1;show 166 (app.eT ?_);rw[d6 (by exact al.lM)];show 166 (ahY apt g1 H ?_);show 166 (M5 m r k λh' g u=>?_);unfold JV;show 166 (PV ?_);rw[Y.e9];show 182 (XV ?_);have l:71 q h':=by have:=j.aV u;rwa[D.dZ]at bb
  exact a.2 q _ _ ⟨w,C,dd,k⟩ g.nl l (.Z i p r)
 |_=>exact a.ak
universe e
section
variable{x:Fx}{J:aW}{F:MS}{s:ae}{Q:af->ae->Prop}{EE:af->ae->Prop}{A:dg}
def ah1{i:I}{p:9e3}{C:aI}{d:0e1}{z:am}{e:al}(apv:ur C)(R:0e9)(apq:J[i]? =5e1)(c:22e0 =G (.a8 C d))(E:lk d 58=G 7e8)
  (h:∀u t,17 7e8 u->Q u 54e7):aY 3e0 A (Cg 7e2 20e5 e) Q EE s:=by
 obtain(⟨apx,apu,aD,es,n,vs,sl,apz,g1,g2,g3,apF,S⟩):=42 i c apq;clear S;have apw:=st R.d8;have apy:L1 s.M p.1 _ C (G (hK es n)):=⟨g1,H,H,g2⟩;clear g2 g1;show aN (apv.cd x.w.bV) λcd o w=>?_;have app:=LZ (m:=n) (n:=58) g3;clear g3;rw[E]at app;(show aN app λu k r=>?_;try clear app);have v:Tm 36e4 C (G (hK es n)) 20e5=G (.vM u):=by
  unfold Tm;rw[o,ar.yi,apv.why,ar.yi];refine(W.L2 cd (G (hK es n)) 20e5).cr _=_;unfold W.L2;rw[w,eY H];dsimp only;rw[k];rfl
 clear k;have P:handedIn u=true:=by cases r;rfl
 obtain(⟨b,g,j,t,os⟩):=s;have a:=apy.aB (apB:=3e0);have apE:=looks_find (apB:=3e0) apw apy v;clear v;have apD:=Ce (apB:=3e0) apw (apv.ga x.w.bV);have apA:=Ce (apB:=3e0) apw (apv.gx x.w.bV);have FB:=PySem.apu.attr_Exception;have l:(55e0 ==56e8)=false:=by decide+ci
 have B:(UX (af.N C)&&55e0 ==56e8)=false:=by rw[l];rfl
 have q:(e&&UX 55e0)=false:=by cases e<;>rfl
 have apr:173 b (su 7e2 22e5) true:=a.iY (f:=λt=>lN t 22e5) ((apv.bj _ _ R.d8).CE (apB:=3e0)).Cf;unfold Cg getAttrBy;show bg (To (nB (bg (a.at (bg (apD.at ?_))))));dsimp only;rw[B,d6 aq];unfold getAttrByItsOwn hookBefore;rw[eY (show UX (af.N C)=true from H)];show bg (apA.at ?_);show bg (tm (nB ?_));unfold callGetattribute;rw[q,d6 aq];unfold boundAndCalled;rw[FB.ga.cr];show bg 20e3;show JO (UI FB.ga.tj PySem.apu.entry_bexc_ga (@Tc 3e0 _ _ ⟨b,g,j,t+1,os⟩ "BaseException.__getattribute__" "BaseException" "__getattribute__" 7e2 [.ag 20e5 t] [] _ 9e8 9e8 apr (PySem.apu.args_bexc_ga _ _) ?_));unfold Builtin.«object.__getattribute__»;show bg (292 (292 (a.at (bg (apE.at ?_)))));show 20e3;refine aY _ _ (handedOut u) _ _ _;rw[handedOut_of P];exact bX (h u (t+1) r)
universe e
section
variable{x:Fx}{J:aW}{F:MS}{s:ae}{A:dg}{E:af->ae->Prop}{d:I}
def UY{m':am->12e4}(R:0e9)(h:h'.Ns x.ab.cY m')(hs:168 x.ab.cY h')(hm:f8 J J s.M h'->∀k v,41e5=12e3->19e1=2e4->∃u,m' 5e5=G u/\RV J h' v u)
  (r:∀k v,(41e5=18e8\/41e5=23e5)->19e1=2e4->19 F.T=2e4) (t:I):241 (220 T) t/\32e2:=by
 show R.Me (T:=T) (h':=h') 2e6 hs (λp=>by(show uE h λo es ep e d p=>?_;try clear h);exact⟨o,es,ep,e,d⟩) (by(show oo h λo es ep e p=>?_;try clear h);exact⟨o,e⟩)
  (λz n c r=>by
   show gd (R.hw z n c r) λw o e d=>?_
   exact⟨w,o,(hs.2 c (λq=>by subst q;exact R.b3.2.2 n r)).aV e,d⟩)
  (λbS=>⟨⟨_,h,λk v a b=>hm bS k v a b⟩,λk v a b=>?_⟩) t
 obtain(⟨c,m,e1,⟨o,e2,i⟩,r1,no⟩):=201 k v (r k v a b);show⟨c,m,e1,⟨o,(hs.2 c λq=>?_).aV e2,i⟩,35e0,no⟩;clear e2 no;subst q;exact R.b3.2.2 _ (nf e1)
def ah2{Q:17e3}(Y:3e6)(R:0e9)(r:15e7)(n:41e5=12e3)
  (h:∀h' t,241 (F.fw k v) t->32e2->157 () t):aY 3e0 A (storeName x.ab 5e5 u) Q E s:=by
 obtain⟨m,l,hm⟩:=R.bq.iP;have o:(x.ab.bt.d9== .class||(x.ab.bt.d9== .TF&&x.ab.cY !=x.ab.ha))=false:=by rw[Y.fn];rfl
 show agg n l (λh' i hs=>?_) o;have apA:=UY (T:=fw F.T k v) R i hs (λbS p w a b=>?_) (λp w a b=>?_) (s.a1+1)
 ·exact h h' _ apA.1 apA.2
 ·rw[sx]at b;clear h i;split at b
  ·rename_i e;subst e;cases b;exact⟨u,eY H,30e3⟩
  ·rename_i e;show aN (hm p w a b) λj e1 r1=>?_;exact⟨j,by rw[d6 (λq=>e (r7 q))];exact e1,35e0⟩
 ·rw[sx]at b;split at b
  ·rename_i e;subst e;rw[n]at a;rcases a with a|a<;>cases a
  ·exact b
def ah3{Q:34e6}(Y:3e6)(apv:ur C)(R:0e9)(j:lk F.T n=G 15e9)(a:J[i]? =5e1)(f:22e0 =G (.a8 C dd))(l:lk dd 58=G (.ag w))
  (hk:x.ab.dB 4e6=12e3) (hd:(4e6==("__debug__" :am))=false)
  (h:∀h' t u,241 F t->32e2->RV J h' (.X [7e8,.ag w]) u->157 (.bk u) t):
  aY 3e0 A (mj [.pP (G (.kj [.r0 7e8 c p2,.kP (.dr 4e6 p3) 20e5 p4] kk p5)) p6] x.ab) Q E s:=by
 show qj (yB ..) ?_;show 23e7;show qj (Mc ..) ?_;show cL (pt λapp=>?_);refine aY _ _ (do let v<-233 (.kj [.r0 7e8 c p2,.kP (.dr 4e6 p3) 20e5 p4] kk p5);return iM.bk v) _ _ _;show 23e7;show qj (Sx ..) ?_;show bg (pt 23e7);refine aY _ _ (do
   let v<-233 (.r0 7e8 c p2)
   let eT<-39e9
   return eT++(<-gr eT (do
    let v<-233 (.kP (.dr 4e6 p3) 20e5 p4)
    let eT<-39e9
    return eT++(<-gr eT (b9 []))))) _ _ _
 show 23e7;show qj (aeQ ..) ?_;refine aY _ _ (mkText z) _ _ _;show To (bg (292 (nB 23e7)));have e:=R.a1 (s.a1+1);rw[af4,yA H];obtain⟨m,k,hm⟩:=e.bq.iP;show aN (hm n _ hk j) λu e1 o=>?_;cases o using mG.cE with
 |Z q r=>
  rw[a]at r;cases r;show bg (qR (RG Y.fn hk k e1 ?_) hd);show bg (pt (bg (nB (ah1 apv e a f l λu2 t r2=>?_))));show bg (SC 20e3);show bg (292 (nB (bX 20e3)));show 20e3;show Sy ?_ (by refine 2<=_;rw[f3];decide);show bX 20e3;have b:=e.ext (jY (308 [af.ag z s.a1,u2].gG)) (vI _) t;exact h _ t _ b.1 b.2 (.X _ _ [af.ag z s.a1,u2] ⟨_,10e0,H,_,H⟩ (by refine 2<=_;exact 24e5) (327 (.ag ..) (dP (je (jY _)) r2)))
universe e
set_option backward.match.sparseCases true
inductive M6 (sc:cD):q0->apw×ar I×D S->Prop
 |mk {k n c kk:I} {z:am} {p1 p2 p3 p4 p5 p6 aU:dA}:hy (nm k) k=true->ew sc (nm k) .lB=true->hy (nm n) n=true->ew sc (nm n) .cV=true->
   M6 sc (.q0 (G (.dr (nm k) p1)) (G (nm n)) [.pP (G (.kj [.r0 (.ag z) c p2,.kP (.dr (nm n) p3) (nm 58) p4] kk p5)) p6] aU) (.g k,G n,[.bk (G (.X [.c (.ag z),.eZ (.l n) 58]))])
abbrev FH(s:cD):D q0->D (apw×ar I×D S)->Prop:=cJ (M6 s)
section
variable{x:Fx}{J:aW}{A:dg}{d:I}{sc:cD}
def ah4{i:I}{p:9e3}{C:aI}{dd:0e1}{w:am}{Q:34e6}{EE:0e5}(hX:ExF)(Y:3e6)(z:44e2)(apv:ur C)(o:J[i]? =5e1)(hv:lk dd 58=G (.ag w))
  {hs:D q0} {ls:D (apw×ar I×15e5)} (apz:FH sc hs ls) (F:MS) (s:ae) (hl:F.T=[]) (ho:22e0 =G (.a8 C dd)) (R:0e9):64 (hand C (.ag w) ls F) RF->97 (UZ 7e2 x.ab hs):=by
 induction apz with
 |aR=>exact λP=>P.ak
 |aQ h _ apC=>
  intro P;obtain(⟨h1,h2,h3,apD⟩):=h;show eE P λq g P=>?_;cases ar.G.cF g;clear g;show eE P λu S P=>RQ P λa hu P=>fV P λj PP=>?_;rw[hu]at S;show oA (ba j) λn j=>?_;show oA (ba j) λj aps=>?_;have E:a≠38:=λe=>by rw[e]at j;exact nF j
  show hV (t5 h1) λn e2 n=>?_;show hV (t5 h3) λn e4 n=>?_;have t:=l3 apD z;have B:=((hX a aps).bj _ _ R.d8).CE (apB:=3e0);have apt:=(apv.bj _ _ R.d8).CE (apB:=3e0);obtain(⟨_,dx,aD,es,m,vs,sl,hpp,g1,_⟩):=42 i ho o;show wpAny_handleBy_cons (codeAny_handlers_test (qR (RE Y R H (l3 h2 z) S λu r=>?_) e2)) (by intro q;cases q);cases r;show ahZ apt B E g1 H ?_;show kT PP (λapp P=>?_) λapp P=>?_
  ·rw[app];show codeAny_handlers_suite_as (M5 R o ho λapF apE K1=>?_);have r1:RV J apF 15e9 7e2:= .Z i p o;show ah2 Y apE r1 t λh2' t2 A K2=>?_;show ah3 Y apv A (by rw[show(F.fw _ 15e9).T=fw F.T _ 15e9 from H,sx,eY H]) o ho hv t e4 λapy t3 aqq c W r3=>?_;refine aY _ _ (do Mg x.ab _ .L;unbindBehindTheSuite x.ab _ _) _ _ _;obtain⟨aq0,apq,hmm⟩:=c.bq.iP;have hp:(x.ab.bt.d9== .class||(x.ab.bt.d9== .TF&&x.ab.cY !=x.ab.ha))=false:=by rw[Y.fn];rfl
   show wpAny_nameGoes t apq hp λf m' apu apx=>?_;have apA:=UY (T:=[]) c apu apx (λn k v n b=>nN b) (λk v n b=>nN b) (t3+1);have kk:=((K1.aV (by simpa using K2)).aV (by simpa using W)).aV (by simpa using apA.2);have R5:230 F (350 f t3 1):=Eq.subst (wF:=λl=>230 (220 l) (350 f t3 1)) hl.bi apA.1;have apr:f8 J J apy f:=by
    have:=c.eI (m2:=[]) apA.2;rwa[D.dZ]at bb
   exact P.bk R5 (by simpa using kk) (.bk (dP apr r3))
  ·rw[app];exact apC P
def aH.ah5{α β:Type}{x:Fx}{J:aW}{s:ae}{r:3e3}{f:I->MS->3e3}{br:17e8}{Q:12e2}{EE h:0e5}(P:11 (r.oP f))
  (apz:∀i aS aC s1 u,x5 J aS i->294 (4 aS.O aS.bG) s1->71 aC s1.M->RV (J++aC) s1.M 15e9 u->11 (f i aS)->h u s1):aH x J s r br Q h:=by
 cases r with
 |aT a F ob=>exact P
 |a8 a F ob=>exact⟨(26e9).1,λaC s' u e R apv r=>apz a F aC s' u e R apv r 26e3⟩
 |no=>exact P.ak
def ah6{ih:Ih}{B:11e1}{b:15e5}{h0:q0}{hs:D q0}{j:D (apw×ar I×15e5)}{aU:dA}{F:MS}(hX:ExF)(h:PB ih d sc B b)(apz:FH sc (h0::hs) j):JS d sc (.Try B (h0::hs) [] [] aU) F
  ((ih 12e5 F).oP λi bR=>gN (bR.dL i) 141 λo=>QC o j (4 bR.O bR.bG)):=by
 intro x J s Q EE Y c hz aqr R P;show 23 (ah7 ..);show 25e5;show aN Y.dY λapu m k=>?_;(show aN (k hz) λl n z=>?_;subst n);refine aM _ _ (do
  match<-(mj B x.ab).DB with
  | .Y .bA=>mj [] x.ab
  | .Y f=>b9 f
  | .dJ e=>do
   mT e x.ab
   sp e L
   UZ e x.ab (h0::hs)) _ _ _
 show aZ (wB (eX (h F x J s Q (λe s'=>260 (mT e x.ab) (λaps W=>283 (do
   sp e L
   UZ e x.ab (h0::hs)) W) EE s') Y c hz pW.looking R (aH.ah5 P λi aS aC s1 u apE apq apx r1 r=>?_)) (λf s' a=>?_) (λe s' V=>?_)))
 ·show aN Y.dY λapu m k=>?_;(show aN (k hz) λl n z=>?_;subst n);clear k;show SZ (x:=x) m H z apq apx apE r1 λh1 iV p tb apv o aD apB C apC hc E apA apy r2 apt dM=>?_;clear dM m E r1;cases r2 using mG.cE with
  |Z q a=>
   show eE r λo app r=>?_;cases o with
   |a8 C dd=>
    show eE r λv apF t=>ael t λw e P3=>fV P3 λgK apr=>?_;clear t;subst e;show 166 (M5 (A:=x.A) apA a app λh2 g S=>?_);have apD:71 iV h2:=by have:=apy.aV S;rwa[D.dZ]at bb
    exact aM.of (ah4 hX Y c (hX C gK) a apF apz (4 aS.O aS.bG) {s1 with M:=h2} H app g (apr.qM (s1:={s1 with M:=h2}) apD))
   |_=>exact r.ak
 ·cases f with
  |next=>exact aM.of (zN a)
  |_=>exact bH a
 ·exact eQ V
def aH.ah8{α β:Type}{x:Fx}{J:aW}{s:ae}{r:3e3}{br:17e8}{Q:12e2}{EE e:0e5}(P:27e7)(h:∀i F ob,r≠ .a8 i F ob):aH x J s r br Q e:=by
 cases r with
 |aT a F ob=>exact P
 |a8 i F ob=>exact bL H (h i F ob)
 |no=>exact P.ak
def ah9{ih:Ih}{B apu:11e1}{m:cn}{b f:15e5}{aU:dA}{F:MS}(h:PB ih d sc B b)(app:PB ih d sc (m::apu) f):JS d sc (.Try B [] [] (m::apu) aU) F
  (A5 ih (.xi b f) F):=by
 intro x J s Q EE Y j hz l R P;show 23 (ah7 ..);show 25e5;have w:=h F x J s;unfold A5 at P;dsimp only at P;generalize ih (.ss b) F=rb at P w;have P:64 (rb.aF λr F=>(ih (.ss f) F).aF λq F=>gX q 142 (7 r)) RF/\∀i F ob,rb≠ .a8 i F ob:=by
  cases rb with
  |aT a F ob=>exact⟨P,λk k k e=>nomatch e⟩
  |a8 i F ob=>exact P.ak
  |no=>exact P.ak
 show oA P λP z=>?_;refine aM _ _ (do
  match<-(do
   match<-(mj B x.ab).DB with
   | .Y .bA=>mj [] x.ab
   | .Y f=>b9 f
   | .dJ e=>do
    mT e x.ab
    throw e:b5 iM).DB with
  | .Y g=>do
   let bS:=match g with| .bk v=>[v]|_=>[]
   match<-gr bS (zE (.DF (m::apu) x.ab) x.ab)with
   | .bA=>b9 g
   |p=>do pe "try.finally-overrides-flow";b9 p
  | .dJ e=>do
   mT e x.ab
   sp e L
   match<-gr [e] (zE (.DF (m::apu) x.ab) x.ab (G e))with
   | .bA=>passOn "try.finally" e x.ab
   |p=>do pe "try.finally-swallows-exception";sp e L;b9 p) _ _ _
 show aZ (wB (aZ (wB (eX (w (λg s'=>aM 3e0 x.A (do
   let bS:=match g with| .bk v=>[v]|_=>[]
   match<-gr bS (zE (.DF (m::apu) x.ab) x.ab)with
   | .bA=>b9 g
   |p=>do pe "try.finally-overrides-flow";b9 p) Q EE s') (λk k=>fT) Y j hz pW.never R (aH.ah8 (P.aF λr aS V s1 u1 c apA r1 u=>?_) z)) (λg s' n=>?_) λk k h=>h.ak))))
 ·show 91 55e7;clear w;rw[wC];show Oz (eX (app aS x _ s1 (λf s'=>283 (match f with
   | .bA=>b9 u1
   |p=>do pe "try.finally-overrides-flow";b9 p) s') EE Y j hz l c (u.aF λq du m2 apq u2 S t r2 o=>?_)) (λf s' n=>n) l)
  clear u;cases r2 with
  |next=>
   show bH (o.fL S ?_);cases r1 with
   |next=>exact .bA
   |bk r=>exact .bk (c.rv t r)
  |bk r=>exact o.ak
 ·cases g with
  |next=>exact aM.of (zN n)
  |_=>exact bH n
universe e
def aia(hd:o.bf= .bw es n):uh o:=by
 show⟨λs s e=>?_,λs s e=>?_,λs e=>?_,?_⟩
 ·rw[hd]at e;cases e
 ·rw[hd]at e;cases e
 ·rw[hd]at e;cases e
 ·exact tL hd
abbrev U0(J:aW)(h:ai):5e6->D (af×af)->Prop:=cJ λp q=>RV J h p.1 q.1/\RV J h p.2 q.2
def U1{w:eB}{apv:Type}[qO apv]{gZ:x7 pw w apv}{f:38e7}{J:aW}{h:ai}{c:V->al}(x:∀{k u},146 k->c k=true->∃a,f a k/\gZ.is a u=true){l us}(apz:U0 J h l us):344 (c p.1)=true->∃bK,Carries gZ us bK/\RK f J h l bK:=by
 induction apz with
 |aR=>exact λb=>⟨[],d2,.aR⟩
 |aQ a _ s=>
  intro e;show aN (s (ba e).2) λbK h1 h2=>?_;show aN (x a.1 (ba e).1) λk e1 e2=>?_;exact⟨(k,_)::bK,⟨e2,H,h1⟩,.aQ ⟨e1,a.2⟩ h2⟩
def aib(r:146 k)(c:nI k=true):∃a,tJ a k/\(oG pw w).is a u=true:=by
 cases r with
 |y i=>exact⟨i,25e1,eF H⟩
 |_=>exact nF c
def aic(r:146 k)(c:rN k=true):∃a,tK a k/\(tM pw w).is a u=true:=by
 cases r with
 |ag i=>exact⟨i,H,eF H⟩
 |_=>exact nF c
inductive FD (ih:Ih) (d:I) (sc:cD):D (ar PySem.a0)->D PySem.a0->D (apw×apw)->Prop
 |aR:FD ih d sc [] [] []
 |aQ {apv V k v Ks Vs l}:PX ih d sc apv k->PX ih d sc V v->FD ih d sc Ks Vs l->FD ih d sc (G apv::Ks) (V::Vs) ((k,v)::l)
def yR(aU:dA)(ab:eA):D 41e7->10e4->D (b5 af×b5 af)
 |G apv::s,V::h=>(78 apv,(do let x<-78 V;ky aU;b9 x))::yR aU ab s h
 |_,_=>[]
def aid:∀{s e l},FD ih d sc s e l->(evalEachOpt s ab).fx ((qS e ab).aj λv=>do let x<-v;ky aU;b9 x)=(yR aU ab s e).aj λp=>(G p.1,p.2)
 :=by
 intro s e l apz
 induction apz with
 |aR=>rfl
 | @aQ apv V _ _ s e _ _ _ h a=>
  refine(G (78 apv),(do let x<-78 V;ky aU;b9 x))::(evalEachOpt s ab).fx ((qS e ab).aj λv=>do let x<-v;ky aU;b9 x)=_;rw[a];rfl
def pairs_len{Ks Vs l}(h:FD ih d sc Ks Vs l):(yR aU ab Ks Vs).U=l.U:=by
 induction h with
 |aR=>rfl
 |aQ _ _ _ ih=>exact bC (· +1) ih
def Kp.U2(a:Kp J [] x h h1)(b:56 J x h1 h2):56 J x h h2:=by
 have:=a.aV (m2:=aC) (h2:=h2) (297 b);rwa[D.uS]at bb
def aH.aie{α β γ δ:Type}{x:Fx}{J:aW}{s s1:ae}{r:3e3}{f:α->MS->R γ}{br:17e8}{p:200 γ δ}{Q:12e2}{b:38e2}{EE:0e5}(P:100 34e5 p b)(apv:71 [] s1.M)
  (apz:∀a aS aC h u,294 aS h->56 J x s1.M h.M->71 aC h.M->br (J++aC) h.M a u->100 (f a aS) p b->Q u h):aH x J s1 r br Q EE:=by
 cases r with
 |aT a F ob=>exact⟨(26e9).1,λaC s' u R e r=>apz a F aC s' u R e (apv.U2 e) r 26e3⟩
 |a8 a F ob=>exact⟨P.1,λaC s' u k R e r=>P.2 aC s' u k R (apv.U2 e) r⟩
 |no=>exact P.ak
section
variable{ih:Ih}{d:I}{sc:cD}
def aif:∀{e b l},FD ih d sc e b l->∀(F:MS) (x:Fx) (J:aW) (s:ae) (Q:D (af×af)->ae->Prop) (EE:0e5),3e6->x.ab.bt=sc->0e9->
  64 (AY ih l F) U0->26 (U3 (yR aU x.ab e b)):=by
 intro e b l apz;induction apz with
 |aR=>exact λF x J s Q EE Y h R P=>274 .aR
 |aQ j c hs i=>
  intro F x J s Q EE Y h R P;refine 283 (U3 ((_,_)::yR aU x.ab _ _)) _;rw[U3];show iL (j F x J s _ EE Y h R (P.aF λk aS t s1 u1 p z r1 w u=>?_));show 91 (aZ (c aS x _ s1 _ EE Y h p (w.aF λv du m2 n u2 a o r2 q=>?_)));show 44 32e5;show iL (dh (i du x _ n _ EE Y h a (q.aF λvs g S app f m r r3 P3 u=>?_)));exact bH (P3.fL m (.aQ ⟨a.rv r (p.rv o r1),a.rv r r2⟩ r3))
set_option tactic.hygienic true in
theorem jx_dic{apy:D 41e7}{Vs:10e4}{l:D (apw×apw)}{aU:dA}{F:MS}(h:FD ih d sc apy Vs l)(S:I.jP l.U 16=true):43 (.Bi apy Vs aU) ((AY ih l F).aF λvs F=>gB (I.g6 vs.U 900&&vs.dM (λp=>nJ vs p.1)) 155 (F.jp (.bw (vs.i9 50e7 [])))):=by
 intro x J s Q EE Y n5 R P;have apD:=pairs_len (aU:=aU) (ab:=x.ab) h;have S:=I.sj.mp S;have U4:∀(s:ae),(210 50e3 (.bw #[])).ao s.M.O.an=G 52e3:=λs=>10e0;cases h with
 |aR=>
  clear S;rw[eval_Dict_empty];show 44 (aM.of (qt ?_));have P:10 (F.jp 6e4):=by
   have P:=aH.oW P;exact P
  exact R.BR (jY _) (Li _) P s.a1 λu=>⟨H,31e7,_,U4 s,.a4 ⟨[],⟨#[],0,⟨H,H,H⟩,H,λe app=>by simp at app,.aR,D.kS⟩,.aR⟩⟩
 |aQ hk hv hs=>
  have apB:=FD.aQ hk hv hs;rw[arm_eval_Dict,aid apB,dictDisplay_pairs _ (by exact D.mM _ _) (by rw[apD];exact I.Qc S)];show 44 27e5;unfold subDict;show iL (aM.of (wpAny_alloc λu=>?_));have ig:=jY (h:=s.M) 52e3;have apE:=R.jy ig s.a1;have C:=U4 s;have apq:s.M.ao s.M.O.an=L:=52e0;have W1:Wr x J (210 50e3 (.bw #[])) 39e7:=λa m=>by
   rw[D.cZ.mp m];exact⟨⟨R.Lj apq,λq=>(R.vG _ q).ak λo e=>(nN (apq.bi.aV e)),λq=>(R.vH _ q).ak λo e=>(nN (apq.bi.aV e)),R.j0,λo i=>by rw[C]at i;cases i;exact UL (es:=[]) (n:=0)⟩,_,C⟩
  show 91 ?_;rw[eY (by rw[apD];exact I.le_of_lt_succ S)];clear apD;show iL (aif apB F x J {s with M:=210 50e3 (.bw #[])} _ EE Y n5 apE.1 (P.aie apE.2 λvs aS aC r us A MR K2 r2 g u=>?_));show oA (W1.km apE.1 H MR) λW2 k2=>?_;have U5:=k2 _ (D.dQ ..) _ C;show fV g λW g=>?_
  ·show oA (al.nM.mp W) λapA apu=>?_;have apA:=I.cz apA;have hlen:=r2.cU;have c:=(W2 _ (D.dQ ..)).1;have eg:∀(h':ai) (t:I),ai.fA s.M.O.an r.M h'->(∃o,47e2=0e4/\o.yo/\(∃es ep,o.bf= .bw es ep)/\(f8 (J++aC) (J++aC++[34e3]) h' h'->f8 (J++aC) (J++aC) r.M h'->
     DK x.w (J++aC++[34e3]) h' o (vs.i9 50e7 [])))->Q 9e9 {r with M:=h',a1:=t}:=by
    intro h' t hs U6;(show sP U6 λo i aps My hr=>?_;try clear U6;obtain⟨es,ep,hd⟩:=My);have B:∀b q,b∉ 39e7->r.M.ao b=G q->11e8=G q:=λb q W e=>(hs.2 b (λz=>W (D.cZ.bn z))).aV e;have hA:∀a∈ [s.M.O.an],o6 x (J++aC) r.M a:=λa m=>by rw[D.cZ.mp m];exact c
    have R3:=A.hR hA B t;have apz:=A.MP hA B;have oddo:uh o:=aia hd;have R4:=R3.vY (p:=34e3) (o:= .bw (vs.i9 50e7 [])) (λa m=>x4 m ⟨⟨c.d3,c.fr,c.fa,c.j0,λo' apx=>ar.G.cF (i.bi.aV apx)▸oddo⟩,o,i⟩) (D.jf.bn ⟨nofun,.aR⟩) (λbS=>⟨H,by have:=UG vs [];simp only[D.sn]at bb;lia,o,i,hr bS apz⟩);have K3:71 aC h':=K2.hR (wr:=39e7) (λa m=>by rw[D.cZ.mp m];exact apq) B;have K4:=K3.vY (s:={r with M:=h',a1:=t}) (p:=34e3) λa m=>x4 m apq;rw[D.eP]at R4;show g.2 (aC++[34e3]) _ _ R4 K4 (.Z _ 34e3 ?_);rw[<-D.eP,<-A.cU,28e3,I.jl];rfl
   have go:∀{apv:Type} [qO apv] {gZ:x7 pw x.w apv} {f:38e7} (kE:∀{a b k apF},f a k->f b apF->m0 k apF=bM (a=b)) {bK:31e5},Carries gZ us bK->RK f (J++aC) r.M vs bK->r.M.qP gZ s.M.O.an []->
     (∀{J h' l} {o:aA},(∃bK,o.qL gZ bK/\RK f J h' l bK)->DK x.w J h' o l)->260 (gr (us.tN λ(k,v)=>[k,v]) do
     for (k,v)in us do dictSet s.M.O.an k v) (λu s'=>Q 9e9 s') EE r:=by
    intro apv _ gZ f kE bK j hr hm fW;show nB (bg (wpAny_storeAll (gZ:=gZ) us bK [] r _ j hm (by have e:=j.U;rw[f3,D.sn];lia) λh' hm' hs'=>20e3));show aN (ai.lZ.mp hm') λo' apx apt=>?_;show jB (id apt) λes ep aps hd u=>?_;exact eg h' _ hs' ⟨o',apx,aps,⟨es,ep,hd⟩,λbS apz=>fW ⟨_,apt,UF kE (tO bS (tO apz hr)) .aR D.kS⟩⟩
   have apC:vs.dM (λp=>nI p.1)=true->_:=λapr=>let⟨_,j,hr⟩:=U1 (w:=x.w) aib r2 apr;go BH j hr (ai.lZ.bn ⟨_,U5,#[],0,⟨H,H,H⟩,H,λe app=>(nomatch app),.aR,D.kS⟩) .a4;have hStr:vs.dM (λp=>rN p.1)=true->_:=λapr=>let⟨_,j,hr⟩:=U1 (w:=x.w) aic r2 apr;go BI j hr (ai.lZ.bn ⟨_,U5,#[],0,⟨H,H,H⟩,H,λe app=>(nomatch app),.aR,D.kS⟩) .aE;show aM.of (hY (Q:=λu s'=>Q 9e9 s') (E:=EE) ?_ (λu s' h=>bH (bH h)) λu u e=>e);clear eg go hlen W;clear apA;clear apA;clear g;clear g r2;cases vs with
   |aR=>exact apC H
   |aQ pk m'=>
    obtain⟨pk,aq1⟩:=pk;rw[D.te]at apu;show oA (al.nM.mp apu) λc3 u=>?_;clear apu;unfold nJ at c3;cases pk<;>dsimp only at c3<;>first|cases c3|skip
    ·exact apC c3
    ·exact hStr c3
universe e
section
variable{bc:gT}{w:eB}{A:dg}{E:af->ae->Prop}{s:ae}
def aig{sD:af->b5 ez}{Q:0e5}
  (gK:clausesOf e=g::gs) (hs:∀x,u9 g.lO ab x=b9 x) (JY:AD bt ab=b9 cl)
  (JZ:bt.d9= .jL) (xd:∀x∈bt.bq,x.2= .cV->bt.bq.bY x.1=12e3)
  (h:108 va (λx w=>aY apB A (qv x) (λit i=>aY apB A J0 (λcP v=>
   aY apB A (zI bt ab.ha cl [] ab.px L .L (G ab)) (λjM q=>
    e8 apB A (.xa e 0 it cP (319 bt ab)) (λr s'=>match r with
     | .Y _=>108 (sD cP) (λa b=>∃m,b.M.Ns jM.cY m/\∀h',ai.fA jM.cY b.M h'->Q .L {b with M:=h'}) E s'
     | .dJ x=>fT) q) E v) E i) E w) E s):
  29 (J1 e bt ab aU J0 false va (G sD)):=by
 unfold J1;rw[JY,gK];show aZ (eX h (λx w app=>eQ (pt (eQ (gu (hs x) (eQ (nB (hY app (λit i o=>?_) 26e8))))))) 26e8);rw[eY cI];show eQ (pt (148 o (λcP v d=>182 (148 d (λjM q t=>?_) 26e8)) 26e8));dsimp only;have u:∀x∈(bt.bq.ov λx=>(x.2== .cV||x.2== .dm)&&x.1 !=(".0" :am)).et,x.2= .cV->
   eA.dB (319 bt ab) x.1=12e3:=λx n p=>acr (xd x (D.rB.mp (D.AE.mp n)).1 p)
 have l:∀x∈(bt.bq.ov λx=>(x.2== .cV||x.2== .dm)&&x.1 !=(".0" :am)).et.fi 1++(bt.bq.ov λx=>(x.2== .cV||x.2== .dm)&&x.1 !=(".0" :am)).et.fI 1,
   x.2= .cV->eA.dB (319 bt ab) x.1=12e3:=λx n p=>by
  rcases D.lL.mp n with h1|h1
  ·exact u x (D.U7 h1) p
  ·exact u x (D.U8 h1) p
 show dh (aZ (wB (dh (DC ?_ (by intro x;cases x)))));rw[wC];show zA t λr s' hr=>?_;cases r with
 |Y f=>
  show aZ (T3 (91 (eX hr (λa b k=>?_) 26e8)));show aN k λm j k=>?_;exact eQ (acs (jM:=(319 bt ab)) JZ _ b m l j λh' m' a c=>bH (k h' c))
 |dJ x=>exact hr.ak
universe e
section
variable{ih:Ih}{d k:I}{sc cs:cD}{m:Tg}
def aih{z w:PySem.a0}{f:10e4}{it:apw}{h:am}{c:PySem.a0}{aU b sw:dA}{t:apq}{F:MS}{rl:It->I->MS->2e9}(apC:un cs sc m)(MQ:sc.bq.bY 33e9≠12e3)(hi:PI ih d sc w it)(hs:∀ab x,u9 w ab x=b9 x)
  (ht:PA ih d sc k (.dr h b) t) (hk:147 sc h=true) (aii:(b.iH==aU.iH)=true) (aij:(cs.bq.fP λ(n,k)=>n==h&&(k== .cV||k== .dm))=false)
  (hl:∀vs j aS,oR vs m=true->JE d (qc cs sc) (133 z c w f cs) vs 0 j aS (rl vs j aS)):
  JS d sc (.pQ [.dr h b] (133 z c w f cs) sw) F (132 (yL ih m it rl F).aF (m3 (jQ ih k t v F))):=by
 intro x J s Q EE Y i hz aqr R P;show 54e5;show 25e5;have aqs:Mo [.dr h b] (133 z c w f cs) sw.iH x.ab=b9 true:=by
  refine(b9 (x.ab.blockKind== .jL&&x.ab.dB h==G .cV&&b.iH==aU.iH&&!(cs.bq.fP λ(n,k)=>n==h&&(k== .cV||k== .dm))):b5 al)=b9 true;rw[l3 hk i,aij,aii];unfold eA.blockKind;rw[Y.fn];rfl
 rw[aqs];show 29e0;rw[eY H];have e1:(λv=>assignAll v (D.aj (λx=>x.snd) (vV [PySem.a0.dr h b] x.ab)))=λv=>rG (.dr h b) x.ab v:=by
  rw[yG (show qZ (.dr h b)=true from H)];rfl
 rw[arm_evalThenUse_ListComp];dsimp only;rw[e1];have apB:=MG (bt:=cs) (ab:=x.ab) λp hp E=>Y.vB p.1 (by
  obtain⟨n,k⟩:=p
  dsimp only at E
  subst E
  have:=apC.eH n hp
  unfold eA.dB
  rw[i];exact bb)
 have xd:∀app∈cs.bq,app.2= .cV->cs.bq.bY app.1=12e3:=λapp apy e=>by
  obtain⟨n,k⟩:=app;dsimp only at e;subst e;exact MJ apC.nd apy
 show aZ (aZ (aig (g:=⟨c,w,f,0⟩) (gs:=[]) H (λv=>hs x.ab v) apB apC.d9 xd ?_));show Ux (Q:=λp s'=>aM 3e0 x.A (rG (.dr h b) x.ab p.1) (λl S=>∃m,S.M.Ns p.2 m/\∀h',ai.fA p.2 S.M h'->aM 3e0 x.A (b9 ():b5 ez) (λl s'=>283 (b9 .bA:b5 iM) s') EE {S with M:=h'}) EE s') apC MQ hi hl Y i R ?_;generalize yL ih m it rl F=r at P⊢;cases r with
 |no=>exact P.ak
 |a8=>exact P
 |aT v bR ob=>
  have P:64 ((m3 (jQ ih k t v bR)).cj ob) RF:=P;show oA 26e9 λapF P=>?_;show⟨apF,λaC s' u B apD r=>?_⟩;(show lJ r λr apr ap apu=>?_;(show oE apr λm' hm=>?_;try clear apr));show ht v bR x (J++aC) s' u.1 _ EE Y i hz B r (aH.MA P apD λl du m2 apx l apt C l aps=>?_);(show oo hm λo es pp apE hd=>?_;try clear hm);have W:Wr x (J++aC) s'.M [u.2]:=λa q=>by rw[52e7];exact⟨ap,o,apE⟩
  show oA (W.km B H C) λapv im=>?_;show⟨m',⟨o,es,pp,im _ 28e4 o apE,hd⟩,λh' V=>bH 32e5⟩;have apz:=(apD.aV C).hR (wr:=[u.2]) (λa q=>by rw[52e7];exact apu) (ng V);have apA:=apt.hR (λa q=>(apv a q).1) (ng V) apx.a1;rw[D.eP]at apA;exact aps.2 (aC++m2) _ _ apA apz .bA
universe e
def aik(P:ay):(8e0).nw (353 1395)=G (1395,ta P):=av
section
variable{apB:iB}{A:dg}{E:af->ae->Prop}{s:ae}{P:ay}
def ail:nQ h c q->h.zH (.N c) q:=(by intro s;(show k7 s λo vs t e x d r=>?_;try clear s);exact⟨c,o,vs,t,H,e,d,r⟩)
def U9(apu:253 s.M)(apq:s.M.ao lY=G (PySem.W.apw.Rm ps))(h:TriplesOk ps.gi):s.M.IsCode 1395 lY ps/\s.M.TableAt 1395 lY ps:=by
 have e:=pg apu 1395 _ (aik P);exact⟨⟨_,_,_,_,_,_,_,_,_,_,e,H,H,H,H,H,H,apq,H,h,aq⟩,⟨_,_,e,H,H,H⟩,apq⟩
universe e
section
variable{x:Fx}{J:aW}{F:MS}{s:ae}{h':ai}
def Va(P:ay):∀p∈KL P,p.1≠lY:=λp s e=>by
 have:=D.iw.mp (show(8e0).dM (λp=>!(341 lY))=true from av) p s;rw[e,I.sv]at bb;cases bb
def aK.aim(R:0e9)(i:∀b o,b≠lY->8e8=0e4->11e8=0e4)(S:qK h')(k:I):241 F k/\32e2:=by
 show aN R.cW λps e0 h=>?_;have nd:∀b o,8e8=0e4->(∀vs,o.bf≠ 27e1)->11e8=0e4:=λb o e n=>i b o (λz=>by subst z;rw[e0]at e;cases e;exact n _ H) e;have P:∀b o,8e8=0e4->lx<=b->11e8=0e4:=λb o e t=>i b o (λz=>by subst z;exact bL t aq) e;have bS:f8 J J s.M h':=by
  show⟨λb aP e=>?_,λb aP e no=>?_,λb C n e no=>⟨nd b _ e (λh q=>nomatch q),no⟩,λh p e=>⟨p,e,H⟩,(by intro c q apA;(show k7 apA λo vs t e a b r=>?_;try clear apA);exact⟨o,vs,t,i c o (R.KR e a) e,a,b,r⟩)⟩
  ·show gF e λo e c n dd=>?_;exact⟨o,388 b e dd,c,n,dd⟩
  ·show gF e λo e c n dd=>?_;exact⟨⟨o,388 b e dd,c,n,dd⟩,no⟩
 show⟨⟨λq g=>i _ _ (Va _ q g) (R.d8 q g),R.cU,λj o q e1 e2=>?_,R.nd,R.gz,λb app=>?_,⟨?_,λk v a b=>?_⟩,R.bI,R.hM,R.b3,λz n c apD=>?_,λl V e apq=>?_,R.fy,R.dD,R.os,S⟩,?_⟩
 ·exact sf bS (λb app apE e=>P b apE e (R.gz b ⟨q,D.jc e2,app⟩)) (R.O j o q e1 e2)
 ·show oE (R.g7 app) λq e=>?_;exact ai.cQ (P b q e (R.gz b app))
 ·obtain(⟨m,⟨o,es,ep,e,dd,r⟩,hm⟩):=R.bq.iP;show(314 ⟨o,es,ep,388 _ e dd,dd,r⟩);show aN (hm k v a b) λu e1 r1=>?_;exact⟨u,e1,35e0⟩
 ·obtain(⟨c,u,e1,⟨o,e2,apw⟩,r1,no⟩):=201 k v b;exact⟨c,u,e1,⟨o,388 c e2 apw,apw⟩,35e0,no⟩
 ·show gd (R.hw z n c apD) λw o e d=>?_;exact⟨w,o,388 c e d,d⟩
 ·exact(R.gD l V e apq).eI λa o e1 e2=>⟨o,P a o e2 (122 ⟨l,V,e,apq,e1⟩).1,H⟩
 ·show⟨λb q e t h h h=>i b q (λz=>by subst z;rw[e0]at e;cases e;cases t) e,λb q e f h=>⟨q,P b q e (R.fy b f).1,H,H⟩,λb q e h n=>i b q n e,λb q e=>?_,(by intro b W;(show aN W λq g h=>?_;try clear W);exact nomatch g)⟩;by_cases app:b=lY
  ·subst app;(show aN S λB A h=>?_;try clear S);exact⟨_,A⟩
  ·exact⟨q,i b q app e⟩
universe e
section
variable{apB:iB}{A:dg}{E:af->ae->Prop}{s:ae}{P:ay}
def ain(m:ab.dI= .N 1395)(apu:253 s.M)(apq:qK s.M){Q:0e5}
  (hQ:∀c h' tk,(∀b o,b≠lY->8e8=0e4->11e8=0e4)->s.M.O.an<=h'.O.an->nQ h' c oU->qK h'->157 (.N c) tk):
  68 (aio ab kQ n gf oU xW kl (.xX vz)):=by
 (show aN apq λps e apA=>?_;try clear apq;rcases apA with H|⟨c,H,h⟩)
 ·show oA (U9 apu e d2) λh1 h2=>?_;show wpAny_functionCodeX m h1 h2 H λa h' tk j R z W p g ⟨B,_,_,r⟩=>?_;(show oA r λv x=>?_;try clear r;(show jC v λo vs g1 g2 g3 x=>?_;try clear v));(show qi p λx o2 apy t2 e2 f1 f2 l=>?_;try clear p);cases e2;rw[g1]at f1;cases f1;rw[g3]at f2;cases f2;have h:nQ h' a oU:=⟨o,vs,t2,g1,g2,g3,l⟩;exact hQ a h' tk (λb o S e=>j b o S e) (I.jz (I.x6 R z)) h ⟨_,g.2,247 a H h⟩
 ·(show np ((U9 apu e (by trivial)).1) λo vs file k=>?_;show np k λapz apD V u=>?_;try clear k;show qi u λapr text tt op t hd d q=>?_;try clear u;show zv q λh2 apw apF apx app w=>?_;try clear q;show hV w λi C apE=>?_;try clear w);unfold aio codeAt;rw[m,d6 (412 ((af.N 1395==af.L)=true))];show bg (aip t hd ?_);rw[d];show bg (aip app i ?_);have f:codeAmong kQ [iE kQ.iH,iE kQ.col,.N c]=47 c:=by
   refine(if(kQ.iH==kQ.iH&&kQ.col==kQ.col)=true then _ else _)=_;rw[vQ,vQ];rfl
  rw[show(#[iE kQ.iH,iE kQ.col,af.N c]:16e5).gi=[iE kQ.iH,iE kQ.col,.N c]from H,f];exact bX (hQ c s.M s.a1 (λx x x e=>e) 11e7 h ⟨_,e,247 c H h⟩)
def aiq{ab:eA}{c1 c2:aI}(j:ab.dI= .N 1395)(m:ab.ha=iD)(d:ab.px= "_law_host.<locals>.")(v:318 31=G c1)(h2:318 100=G c2)
  (apu:253 s.M) (apq:qK s.M) {Q:0e5}
  (hQ:∀fa h' tk fd cc,(∀b o,b≠lY->8e8=0e4->11e8=0e4)->s.M.O.an<=fa->h'.ao fa=G (316 47e1 (.ml fd))->Bv fd c1 c2 cc->nQ h' cc oU->qK h'->157 (.N fa) tk):
  68 (78 nP):=by
 rw[Rl,arm_eval_Lambda];have gK:AD kl ab=b9 [(34e4,c2),(35e5,c1)]:=by
  rw[MG (λp h t=>?_)]
  ·have:l4 ab.b3 kl.bq []=[(34e4,(318 100).ge 0),(35e5,(318 31).ge 0)]:=av;rw[bb,v,h2];rfl
  ·have cR:∀p∈kl.bq,p.2= .eH->p.1=35e5\/p.1=34e4:=by decide+ci
   rcases cR p h t with e|e<;>rw[e]
   ·rw[v];rfl
   ·rw[h2];rfl
 have hd:defaultsOf xW ab=([],[]):=av;rw[hd];have z:ab.px++ "<lambda>" =oU:=by rw[d];kernel_rfl
 rw[z];refine 68 (makeFunction "<lambda>" oU xW (.xX vz) kl ab [] [] [] kQ kQ.iH);show bg (bX (a:=af.L) (bg (qj (m':=b9 af.L) av (292 (bX (a:=L) (bg (qj gK (292 (wpAny_newObjAsIs_type ?_)))))))));generalize n:s.M.b6 _=apz;have k:∀b o,8e8=0e4->apz.ao b=0e4:=λb o e=>n▸33e0;have hz:s.M.O.an<=apz.O.an:=by rw[<-n,ai.iO];exact 37e8
 have q:253 apz:=λp h=>k _ _ (apu p h);show cL (ain (s:={s with M:=apz}) j q (jt.Y (λa o e x=>k a o e) apq) λc h' tk w u i l x=>?_);have F2:253 h':=λp h=>w _ _ (Va P p h) (q p h);have app:∀b o,b≠lY->8e8=0e4->11e8=0e4:=λb o r e=>w b o r (k b o e);have hm:h'.Ns ab.ha (h'.jI iD):=by rw[m];exact .vD (ph F2)
 have r:h'.jI iD "__builtins__" =47 4:=by unfold ai.jI;rw[k3 F2];kernel_rfl
 show cL (wpAny_builtinsFor hm r aq (k4 F2) H H H λx=>?_);show cL (ye hm λx=>?_);show bg (bX (a:=af.L) 51e1);have f:s.M.O.an<=h'.O.an:=I.dV hz u;show hQ _ _ _ _ c (λb o r e=>117 (app b o r e)) f 10e0 ⟨H,H,H,H,H,H,m,H,H,H⟩ ?_ ?_
 ·exact jt.dI (λa o e x=>33e0) i
 ·exact jt.Y (λa o e x=>33e0) l
universe e
def Vb:∀(l:1e0) (a o:aps) (r:1e0),my (l++a::r) l.U o=l++o::r
 | [],_,_,_=>rfl
 |b::l,a,o,r=>bC (b:: ·) (Vb l a o r)
def air{x:Fx}{J i d m2:aW}{F m:MS}{s s1 apE P g app:ae}{ab:eA}{fa t f cc:aI}{apw:jD}{v k n:V}{C:aI}(R:0e9)(hL:ab.cY=s.M.O.an)(hf:ab.ec=31e4)(gK:∀n c,(n,c)∈ab.b3->ab.cY<c)(hA:39e8)
  (ig:48e3) (pX:51e0) (K2:Kp J i 5e4 s1.M apE.M) (K3:Kp (J++i) d 5e4 apE.M P.M) (R3:aK 5e4 (J++i++d) m P)
  (R4:aK 5e4 (J++i++d) m g) (K4:Kp (J++i++d) [] 5e4 P.M g.M) (ut:P.M.O.an<=fa) (Vc:g.M.ao fa=G (316 47e1 (.ml apw))) (apt:Bv apw t f cc) (ql:nQ g.M cc oU)
  (R5:aK 5e4 (J++i++d++m2) ⟨m.O++[113 [(31,v),(184,5 fa)]],m.T,m.bG⟩ app) (K5:Kp (J++i++d) m2 5e4 g.M app.M)
  (Vd:318 31=G t) (Ve:318 100=G f) (hk:lk m.T 31=G k) (hn:lk m.T 100=G n) (aqt:ab.dB 35e5=18e8) (aqu:ab.dB 34e4=18e8):
  ∃aC,294 ⟨m.O++[113 [(31,v),(184,.Z (m.O.U+1))]]++[.cW k n],F.T,m.bG⟩ app/\71 aC app.M/\∀u,RV (J++i++d++m2) app.M (.Z m.O.U) u->RV (J++aC) app.M (.Z m.O.U) u:=by
 have apv:Kp J (i++d++[]++m2) 5e4 s1.M app.M:=by
  have a:=K2.aV K3;have b:Kp (J++(i++d)) [] 5e4 P.M g.M:=by rw[<-D.eP];exact K4
  have c:Kp (J++(i++d++[])) m2 5e4 g.M app.M:=by rw[D.dZ,<-D.eP];exact K5
  exact(a.aV b).aV c
 rw[D.dZ]at apv;have R5':=R5;rw[D.eP,D.eP,<-D.eP i]at R5;show oA (R.B7 38e9 hf gK hA ig pX R5 apv) λR6 K6=>?_;have apq:(35e5,t)∈ab.b3:=nf Vd;have S:(34e4,f)∈ab.b3:=nf Ve;have B:fr 5e4 t:= 354 H apq;have E:fr 5e4 f:= 354 H S;have apz:s.M.O.an<t:=hL▸gK _ _ apq;have s2l:s.M.O.an<f:=hL▸gK _ _ S;have aps:t<fa:=I.mH (R3.m9 _ B) ut;have l2:f<fa:=I.mH (R3.m9 _ E) ut;have ais:t≠f:=λe=>by
  subst e;exact bL (r7 (Md R5.b3.1 apq S)) aq
 have W:∀a∈dT (fa,[t,f]),s.M.O.an<=a:=by
  exact λa z=>tP z (I.jz (I.yu apz aps)) (I.jz apz) (I.jz s2l)
 have A:¬cy (J++i++d) fa:=λq=>31 (R3.up _ q) ut;have faF:¬fr 5e4 fa:=λq=>31 (R3.m9 _ q) ut;have faA:¬FA 5e4 fa:=λq=>31 (R3.tW _ q) ut;have apx:=K5.bS fa _ Vc H faA faF A;have faO:¬cy (J++(i++d++m2)) fa:=λq=>by
  rw[<-D.eP,<-D.eP]at q;rcases 46e2 with q|q
  ·exact A q
  ·exact 225 (K5.fm _ q) Vc
 have cd5:nQ app.M cc oU:=(R4.eI K5).KP _ _ ql;obtain(⟨aq2,u1,e1,apD,r1,_⟩):=R5.bq.eV 31 k (.a4 aqt) hk;obtain(⟨aq3,u2,e2,i2,r2,_⟩):=R5.bq.eV 100 n (.a4 aqu) hn;rw[show(5e4).ab.b3.bY 35e5=G t from Vd]at e1;rw[show(5e4).ab.b3.bY 34e4=G f from Ve]at e2;cases e1;cases e2;have ait:¬cy (J++(i++d++m2)) t:=R5.bI _ B;have aiu:¬cy (J++(i++d++m2)) f:=R5.bI _ E;have apu:=R6.UK (p:=(fa,[t,f])) (o:= .cW k n) (λa z=>?_) (λa z=>?_) (λj w c a b e h=>?_) ?_ (λbS=>⟨apw,t,f,u1,u2,H,apx,⟨cc,apt,cd5⟩,apD,i2,35e0,dP bS r2⟩)
 ·have K7:=K6.vY (p:=(fa,[t,f])) λa z=>ai.tV (W a z);have apF:(J++(i++d++m2)).U=m.O.U+1:=by rw[R5.cU];simp
  have apA:m.O.U<(J++(i++d++m2)).U:=by rw[apF];exact 40e5
  show oE (⟨_,D.ie apA⟩:∃pi,(J++(i++d++m2))[m.O.U]? =G pi) λpi hpi=>?_;have apB:(J++(i++d++m2)++[(fa,[t,f])])[m.O.U]? =G pi:=by rw[D.kR apA];exact hpi
  have aqv:(J++(i++d++m2)++[(fa,[t,f])])[m.O.U+1]? =G (fa,[t,f]):=by
   rw[<-apF,28e3,I.jl];rfl
  have ho:(m.O++[113 [(31,v),(184,5 fa)]]++[.cW k n])[m.O.U]? =G (113 [(31,v),(184,5 fa)]):=by
   rw[D.kR (by simp),28e3,I.jl];rfl
  obtain(⟨_,dx,es,aqw,sl,aqx,apC,aqy,aqz⟩):=apu.O _ _ pi ho apB;have apr:=(apu.na (h':=app.M) (o':= 113 [(31,v),(184,.Z (m.O.U+1))]) apB (D.dQ ..) ⟨H,λzz zz=>rfl⟩ (λq e=>by rw[apC]at e;cases e;rfl) (λbS=>⟨by refine 2<=1000;decide,dx,es,aqw,sl,aqx,apC,aqy,?_⟩) app.a1).1
  ·show⟨i++d++m2++[(fa,[t,f])],?_,K7,λu r=>?_⟩
   ·rw[<-D.eP];have e:(⟨m.O++[.bv C [(31,v),(184,.aa (.N fa))]]++[.cW k n],F.T,m.bG⟩:MS).cN m.O.U (113 [(31,v),(184,.Z (m.O.U+1))])=⟨m.O++[113 [(31,v),(184,.Z (m.O.U+1))]]++[.cW k n],F.T,m.bG⟩:=by
     refine(⟨my (m.O++[.bv C [(31,v),(184,.aa (.N fa))]]++[.cW k n]) m.O.U _,F.T,m.bG⟩:MS)=_;rw[D.eP,D.eP];exact bC (λl=>(⟨l,F.T,m.bG⟩:MS)) (Vb _ _ _ _)
    rw[e]at apr;exact apr
   ·cases r using mG.cE with
    |Z p hp=>
     show .Z _ p ?_;rw[<-D.eP,D.kR apA,<-D.eP,<-D.eP];exact hp
  ·cases aqz with
   |aQ g1 g3=>
    cases g3 with
    |aQ g4 aqA=>
     show .aQ g1 (.aQ ⟨g4.1,?_⟩ aqA);have apy:=g4.2;generalize hv:iQ.oT _=w at apy⊢;cases apy;exact .Z _ _ aqv
 ·have:=W a z;show⟨?_,λq=>31 (R.m9 _ q) bb,λq=>31 (R.tW _ q) bb,I.dV R.j0 bb⟩;exact tP z faO ait aiu
 ·show tP z ⟨_,apx,nofun,nofun⟩ ?_ ?_
  ·(show aN apD λo e dd=>?_;try clear apD);exact⟨o,e,dd▸nofun,dd▸nofun⟩
  ·(show aN i2 λo e dd=>?_;try clear i2);exact⟨o,e,dd▸nofun,dd▸nofun⟩
 ·obtain(⟨c',_,Q,⟨o,eo,_⟩,_⟩):=201 j w b;rw[e]at Q;cases Q;exact 31 (ai.cQ eo) (W c h)
 ·simp only[dT,D.jf,D.eS,D.mq,mr,Qa,afs,D.kS,tf];exact⟨⟨I.vc aps,I.vc l2⟩,ais⟩
noncomputable def lq(a b:I):dA:=⟨929,a,929,b⟩
noncomputable def yS:PySem.a0:= .qI (.jT (256 102 20 30) [] [] (lq 20 32)) (256 31 33 37) (lq 20 38)
noncomputable def hX:apw:= .a2 (170 102 []) (.eV 31)
section
variable{ih:Ih}{d:I}
def aiv{fd:jD}{k n:V}{F:MS}(apv:yp 1396 ve fd [.pP (G (.jT (256 101 11 19) [yS,nP] [] (lq 11 96))) (lq 4 96)])
  (hco:fd.dI= .N 1395) (hqu:fd.pd= "_law_host") (hE:kU ih d fd.bt yS hX) (h1:hy (nm 101) 101=true) (h2:ew fd.bt (nm 101) .lB=true) (hlk:lk gl 101=G (5 789)) (aiw:kW F (5 789))
  (c1:ew fd.bt 35e5 .dm=true) (c2:ew fd.bt 34e4 .dm=true)
  (hC:∀v u bR,JC d (5 789) [v,29e6] bR (.Y (.Z bR.O.U) ⟨bR.O++[177 (31,v) (184,29e6)],bR.T,bR.bG⟩)):
  JC (d+1) (5 1396) [k,n] F (Kl ih hX 789 [k,n] F):=by
 intro x J s u us Q EE Y R B apD P;cases B;have Ca:=Y.g9;have Cb:=Y.jd;show LO (d:=d) apv av Y bN bN R apD λab s1 hL apC p gK E apu aps b i ⟨apr,apx⟩=>?_;have apq:ve.ps.fx ([k,n]++ve.jr ([k,n]:0e0).U)=[(31,k),(100,n)]:=av;rw[apq]at i;have P:10 ((ib (ck ih hX (220 [(31,k),(100,n)]))).aF λv bR=>(ib (ih (22 789 [v,0e6]) bR)).aF λe e=>gN (lk bR.T 31) 126 λk=>gN (lk bR.T 100) 126 λn=>Internal.R.Y (V.Z bR.O.U) ⟨bR.O++[177 (31,v) (184,.Z (bR.O.U+1))]++[.cW k n],F.T,bR.bG⟩):=P;show 51e6;show 27e5;show 23 (Mc ..);show 25e5;refine aM _ _ (do let v<-78 (.jT (256 101 11 19) [yS,nP] [] (lq 11 96));return iM.bk v) _ _ _;show 27e5;show 23 (Cu ..);show aZ (yk (d:=d) (F:=(220 [(31,k),(100,n)])) (aU:=lq 11 19) h1 h2 5e4 J s1 _ _ b p i ?_);unfold mI;rw[hlk];show⟨λe h=>(nomatch h),λaq4 q u2 g apz r2=>?_⟩;cases r2;show ue (by rw[nb hE.1];rfl) ?_;rw[nb hE.1];refine aM (bd 5e4) (5e4).A (do
   let v<-78 yS
   let eT<-39e9
   return eT++(<-gr eT (nc (145 (lq 11 96) [nP] ab)))) _ _ q
 show aZ (hE.2 (220 [(31,k),(100,n)]) 5e4 _ q _ _ b p g ?_);generalize ck ih hX ⟨F.O,[(31,k),(100,n)],F.bG⟩=r at P⊢;cases r with
 |no=>exact P.ak
 |a8=>exact P.ak
 |aT v bR ob=>
  show oA (aH.cj (r:=(ib (ih (22 789 [v,0e6]) bR)).aF λe e=>_) P) λapp P=>?_;show⟨app,λm1 j u1 m t r3=>?_⟩;generalize ih (.aX (.aa (.N 789)) [v,.aa .L]) bR=r2 at P;cases r2 with
  |no=>exact P.ak
  |a8=>exact P.ak
  |aT a du mo=>
   show oA (aH.cj (r:=gN (lk bR.T 31) 126 λk=>gN (lk bR.T 100) 126 λn=>Internal.R.Y (V.Z bR.O.U) ⟨bR.O++[177 (31,v) (184,.Z (bR.O.U+1))]++[.cW k n],F.T,bR.bG⟩) P) λe P=>?_;show eE P λk' A P=>eE P λn' apE P=>?_;have P:=P.2;show oE (ar.mV.mp (b.vB 35e5 (.a4 (l3 c1 (x:=5e4) p)))) λaq5 o=>?_;show oE (ar.mV.mp (b.vB 34e4 (.a4 (l3 c2 (x:=5e4) p)))) λaq6 f=>?_;show 358 ?_;rw[nb (show vK nP=true from by rw[Rl];rfl)];refine aM (bd 5e4) (5e4).A (do
    let v<-78 nP
    let eT<-39e9
    return eT++(<-gr eT (nc (145 (lq 11 96) [] ab)))) _ _ j
   show iL (aM.of (aiq (apr.aV hco) b.vA (by rw[apx,hqu];kernel_rfl) o f m.d8 m.cW λfa h' tk fd' cc apw ut apF apt apA apB e=>?_));show oA (m.aim apw apB tk) λw l=>?_;show 358 (bH 32e5);have kk:yy (bd 5e4) h' (.N 789):=yz w 14e9 aiw;show bH ⟨kk,?_⟩;show hC v (.N fa) bR 5e4 _ {j with M:=h',a1:=tk} _ [u1,.N fa] _ _ b w 14e9 (327 (dP (by have:=m.eI l;rwa[D.dZ]at bb) r3) 14e9) ⟨λe h=>(nomatch h),λm2 S c apy C r5=>?_⟩;show bH 32e5;show dU (air R hL apC gK E apu aps apz t m w l ut apF apt apA apy C o f A apE (l3 c1 (x:=5e4) p) (l3 c2 (x:=5e4) p)) λaC z W hr=>?_;exact P aC S c z W (hr c r5)
universe e
set_option backward.match.sparseCases false
section
variable{bc:gT}{w:eB}{A:dg}{R:mf->ae->Prop}{s:ae}
def aix
  (h:aM 6e2 (A.hZ ab) (78 e) (λv s'=>333 v s')
   (λa s'=>273 w (A.hZ ab) (rj ab a) (λb x=>R (.dJ a) x) (λr x=>R (.dJ r) x) s') s):
  96 A (.xX e ab) R s:=by
 show mh H ?_;refine aM _ (A.hZ ab) (do wD;bk (<-(78 e).qk (rj ab))) _ _ s;exact 166 (OC (aZ (wz (eX h (λv s' h'=>bH h') λb b h'=>aM.of h'))))
def aiy(i:A.g9<DG)
  (ho:4e4=0e4)
  (DH:o.bf= .ml fd) (hco:fd.bt.zF=false) (DI:fd.bt.zG=false) (DJ:fd.cX= .xX cX) (ql:s.M.zH fd.dI fd.pd)
  (h:aY (bh bc w) A.fh (DL fd pn) (λn r=>
   aY (6e2) A.fh (zI fd.bt fd.ha fd.rk n (fd.pd++ ".<locals>.") 11e3 fd.dI L fd.jE)
    (λab b=>b.M.OE/\96 A (.xX cX ab) R b) (14e7) r) 14e7 s):
  96 A (.aX 2e2 pn) R s:=by
 show mh H ?_;refine aM _ A.fh (sU 2e2 pn) _ _ s;simp-fu only[sU];show ff (rm ho λx=>?_);(show qi ql λc oc vs l p q v u=>?_;try clear ql);simp only[DH,XY,hco,DI,DJ,p];rw[p]at h;show eQ (m:=ro (.N c) 1) (hH q v u 29e0);exact 148 h (λn r j=>148 j (λab b k=>eQ (XZ k.1 i
  (bH (i4.nr H k.2)))) 53e9) 53e9
universe e
def j2(x:Fx)(ab:eA):Fx:=⟨x.w,46e8,{ab with bt:={ab.bt with bq:=[(".0",.cV)]},b3:=[]},x.os,true⟩
def aK.aiz{x:Fx}{J:aW}{F:MS}{s:ae}{c:ai}(R:0e9){m:am->12e4}{ab:eA}(hL:ab.cY=s.M.O.an)(i:c.Ns ab.cY m)(app:386 4e4 (c.ao a))
  (hf:ab.ec=31e4) (hk:ab.bt.d9= .jL) (hA:39e8) (tk:I):aK 19e5 J (4 F.O F.bG) (84 c tk):=by
 have h:=(R.jy app tk).1;have f:lx<=s.M.O.an:=R.j0;have d:∀a,fr 19e5 a->s.M.O.an<=a:=by
  rintro a (rfl|⟨q,_⟩)
  ·exact 38e9
  ·cases q
 show⟨h.d8,h.cU,h.O,h.nd,h.gz,h.up,⟨⟨m,i,λk v a b=>(by cases b)⟩,λk v a b=>(by cases b)⟩,λa p j=>31 (R.up a j) (d a p),λa p=>I.dV f (d a p),⟨D.kS,D.kS,λn t=>(by cases t)⟩,(λq=>nG q),?_,?_,h.dD,h.os,h.cW⟩
 ·(show oE hA λl u=>?_;try clear hA);clear d;intro l' w e r;have:l'=ab::l:=by
   have:(19e5).A.dY=G (ab::l):=by refine 38e8=_;rw[u];rfl
   rw[bb]at w;cases w;rfl
  subst bb;rcases 48e6 with H|r
  ·(show uE i λo es ep e1 e2 z=>?_;try clear i);exact⟨hk,_,o,hf,e1,es,ep,e2⟩
  ·exact h.gD l u e r
 ·rintro a ⟨l',w,e,r,p⟩;clear i;(show oE hA λl u=>?_;try clear hA);have:l'=ab::l:=by
   have:(19e5).A.dY=G (ab::l):=by refine 38e8=_;rw[u];rfl
   rw[bb]at w;cases w;rfl
  clear w;subst bb;rcases 48e6 with H|r
  ·rw[hf]at p;cases p;rw[hL];clear hL;exact⟨f,λj=>293 (R.up _ j)⟩
  ·exact 122 ⟨l,u,e,r,p⟩
def M7(k:39e8):FA 19e5 a ↔ (ab.ec=11e3\/FA x a):=by
 (show oE k λl p=>?_;try clear k);have e:(19e5).A.dY=G (ab::l):=by refine 38e8=_;rw[p];rfl
 constructor
 ·rintro⟨l',s,v,b,r⟩;rw[e]at s;cases s;rcases D.eS.mp b with H|b
  ·exact .a4 r
  ·exact .aE ⟨l,p,v,b,r⟩
 ·rintro(h|⟨l',s,v,b,r⟩)
  ·exact⟨_,e,ab,D.dQ ..,h⟩
  ·rw[p]at s;cases s;clear s;exact⟨_,e,v,54 b,r⟩
def aK.aiA{x:Fx}{J aC:aW}{F app:MS}{s s1 s':ae}(R:0e9){ab:eA}(hL:342 ab.cY)(apw:ab.ec=31e4)(g:39e8)
  (ig:48e3) (pX:51e0)
  (R':aK 19e5 (J++aC) app s') (K':56 J 19e5 s1.M s'.M):207 ⟨app.O,F.T,app.bG⟩/\38e5:=by
 have i:∀a,a<s.M.O.an->¬fr 19e5 a:=by
  rintro a p (rfl|⟨q,_⟩)
  ·exact 31 p hL
  ·cases q
 have d:∀a,a<s.M.O.an->¬FA x a->¬FA 19e5 a:=by
  intro a p h q;rcases(M7 g).mp q with e|q
  ·rw[apw]at e;cases e;exact 31 p hL
  ·exact h q
 have apv:38e5:=by
  show⟨λa o e t f j apE=>K'.bS a o (ig a o e) t (d a 9e1 f) (i a 9e1) apE,λa o e f j=>K'.ju a o (ig a o e) ((M7 g).bn (.aE f)) (i a 9e1),λa o e t n=>K'.iW a o (ig a _ e) t n,λa o e=>K'.g7 a o (ig a o e),λa p=>?_⟩;cases A:s.M.ao a with
  |L=>rfl
  |G o=>exact 225 (K'.fm a p) (ig a o A)
 have bS:=R.eI apv;have P:∀a o,¬14e2->4e4=0e4->¬69 (J++aC):=λa o h1 h2 h3=>(jv.mp h3).ak h1 λh=>nN ((324 h) h2);have ec:∀a o,FA x a->4e4=0e4->∃o',s'.M.ao a=G o'/\o'.bf=o.bf:=by
  intro a o f e;show dU (K'.ju a o (ig a o e) ((M7 g).bn (.aE f)) (i a 9e1)) λo' e1 j e2=>?_;exact⟨o',e1,e2⟩
 have dm:∀c u,s.M.pS c u->¬cy J c->s'.M.pS c u:=by
  rintro c u ⟨o,e,hd⟩ no;show⟨o,K'.bS c o (ig c o e) (Bs hd) (d c 9e1 54e9) (i c 9e1) no,hd⟩
 show⟨⟨R'.d8,R'.cU,R'.O,R'.nd,R'.gz,R'.up,⟨?_,λk v a b=>?_⟩,λa p=>(R.vG a p).ak λo e=>P a o (R.bI a p) e,R.hM,R.b3,λz n c apq=>?_,λl apA e S=>?_,λa p=>⟨(122 p).1,(R.vH a p).ak λo e=>P a o (122 p).2 e⟩,R'.dD,R'.os,R'.cW⟩,apv⟩
 ·obtain(⟨m,⟨o,es,ep,e,hd,hs⟩,hm⟩):=R.bq.iP;have:∃o',s'.M.ao x.ab.cY=G o'/\o'.bf=o.bf:=by
   by_cases q:FA x x.ab.cY
   ·exact ec _ _ q e
   ·exact⟨o,K'.bS _ o (ig _ o e) (tL hd) (d _ 9e1 q) (i _ 9e1) (R.bI _ 2e6),H⟩
  (show aN bb λo' W apD=>?_;try clear bb);show(314 ⟨o',es,ep,W,apD.aV hd,hs⟩);show aN (hm k v a b) λu e1 r=>?_;exact⟨u,e1,30e3⟩
 ·obtain(⟨c,u,e1,e2,r,no⟩):=201 k v b;show aN (id e2) λo e3 j=>?_;exact⟨c,u,e1,dm c _ e2 no,30e3,P c _ no e3⟩
 ·show oE (R.hw z n c apq) λw V=>?_;exact⟨w,dm c w V (R.bI c (247 z n apq))⟩
 ·exact(R.gD l apA e S).eI λa o e1 e2=>ec a o ⟨l,apA,e,S,e1⟩ e2
def aiB{ab:eA}{apB:iB}{A:dg}{s:ae}{Q:0e5}{EE:0e5}{P:ay}{k:I}{u:af}(p:ab.bt.d9= .jL)(n:ab.ha=iD)(m:ab.jE=mW)(apu:253 s.M)(b:33e4=G .lB)(e:19 gl=G 29e6)(h:Q u s):aY apB A (yd ab 5e5) Q EE s:=by
 show aN (RD (J:=[]) apu e) λv r z=>?_;cases r;rw[ad7 p b];unfold loadGlobal;rw[n,m];show cL (ye (.vD (ph apu)) λx=>?_);rcases z with z|⟨z,a⟩
 ·rw[z];exact 22e2
 ·rw[z];show cL (ye (.vD (At apu)) λx=>?_);rw[a];exact 22e2
def M8:PySem.a0:= .jT (256 118 75 79) [256 67 80 86] [] (lq 75 87)
def CF:PySem.a0:= .kj [256 31 69 73,M8] 0 (lq 68 88)
def Vf:PySem.a0:= .jT (.kP (256 100 55 60) (nm 46) (lq 55 67)) [CF] [] (lq 55 89)
def Vg:PySem.a0:= .D [] (lq 93 95)
def aiC:vz= .pO .Or [Vf,Vg] (lq 55 95):=av
def aiD:kl.zF=false/\kl.zG=false/\kl.d9= .jL/\(∀x∈kl.bq,x.2≠ .dm)/\kl.bq.bY (nm 67)=12e3/\kl.bq.bY 35e5=23e5/\kl.bq.bY 34e4=23e5/\kl.bq.bY (nm 118)=G .lB:=by
 show⟨av,av,av,by decide+ci,av,av,av,av⟩
def aiE{c1 c2 cc:aI}(apt:Bv fd c1 c2 cc)(u:af):DL fd (61 [u])=b9 [(nm 67,u)]:=by
 obtain(⟨gf,k,bV,cX,bt,ha,rk,zS,DV,doc,pyModule,p,dI,m,jE⟩):=fd;obtain(⟨h1,h2,h3,a,e,h,b,r,s,x⟩):=apt;dsimp-fu only at h1 h2 h3 a e h b r s x;subst h3 h s x;kernel_rfl
def list_st(F:MS)(v:V):(∃w ob,∀T,vl true "list" [v] (220 T)= 20 w F.O T F.bG ob)\/∃k,vl true "list" [v] F= .no k:=by
 have h1:∀T,lU v (220 T)=lU v F:=λT=>by cases v<;>rfl
 have h2:∀T,vj v (220 T)=vj v F:=λT=>by cases v<;>rfl
 have h3:∀T,rQ v (220 T)=rQ v F:=λT=>by cases v<;>rfl
 have c0:∀s:MS,vl true "list" [v] s=(match lU v s with
   |G l=>s.kc true l (rQ v s)
   |L=>gN (vj v s) 50 λl=> .Y (6 l) s):=λs=>av
 have c1:∀(l:0e0) (t:al),(∃ob,∀T,MS.kc (220 T) true l t= 20 (.ad l t) F.O T F.bG ob)\/∃k,F.kc true l t= .no k:=by
  intro l t;unfold MS.kc gv;cases t with
  |true=>exact .a4 ⟨_,λT=>rfl⟩
  |false=>
   cases I.g6 l.U 16777216 with
   |true=>exact .a4 ⟨_,λT=>rfl⟩
   |false=>exact .aE 25e1
 cases q:lU v F with
 |G l=>
  rcases c1 l (rQ v F)with⟨ob,h⟩|⟨k,h⟩
  ·exact .a4 ⟨.ad l (rQ v F),ob,λT=>by rw[c0,h1,q,h3];exact h T⟩
  ·exact .aE ⟨k,by rw[c0,q];exact h⟩
 |L=>
  cases x:vj v F with
  |G l=>exact .a4 ⟨6 l,[],λT=>by rw[c0,h1,q,h2,x];rfl⟩
  |L=>exact .aE ⟨50,by rw[c0,q,x];rfl⟩
def aiF{d:I}{i n:I}{k v:V}{F:MS}(hg:18e7=G (.cW k (.Z n))):JC (d+1) 15e9 [v] F (vm n k v F):=by
 intro x J s u us Q EE Y R ru rs P;cases ru using mG.cE with
 |Z p z=>
 (show aN (MU rs) λu1 Mx r1=>?_;subst Mx);clear rs;obtain(⟨fd,c1,c2,w1,w2,hp2,aiG,⟨cc,apt,ql⟩,ic1,Vh,aqB,rn⟩):=42 i hg z;obtain(⟨sc1,ko,Vi,sc4,Vj,sc6,sc7,sc8⟩):=aiD;have Ca:=Y.g9;have Cb:=Y.jd;obtain⟨l,apy,_⟩:=Y.dY;obtain⟨r,t0,apw⟩:∃r t0,F.dL n=G (.az r t0):=by
  cases e:F.dL n with
  |L=>unfold vm at P;rw[e]at P;exact P.ak
  |G o=>
   unfold vm at P;rw[e]at P;cases o with
   |az r t0=>exact⟨r,t0,H⟩
   |_=>exact P.ak
 unfold vm at P;rw[apw]at P;rcases list_st F v with⟨w,IS,apu⟩|⟨kk,apu⟩
 case aE=>rw[apu]at P;exact P.ak
 have Vk:=apu F.T;rw[show(⟨F.O,F.T,F.bG⟩:MS)=F from H]at Vk;rw[Vk]at P;have P:10 ((match F.dL n with
  |G (.az l t)=>(xC n (.az l t) 46 [.X [k,w]] F).aF λC F=>Internal.R.Y (V.ad [] false) F
  |_=> .no 132).cj IS):=P
 obtain⟨aiH,P⟩:=26e9;rw[apw]at P;have P:10 (((gv (r.U+1) t0 F).aF λC F=>Internal.R.Y (V.aa .L) (F.cN n (.az (r++[.X [k,w]]) t0))).aF λC F=> 7 11e0):=P;show rh (aiy (cX:=vz) bN aiG H (by rw[apt.bt];exact sc1) (by rw[apt.bt];exact ko) apt.cX (by rw[apt.dI,apt.px];exact ail ql) ?_);rw[aiE apt u1,apt.rk,apt.bt,apt.ha,apt.jE];show bX (aho sc4 (λapp aqC=>by rw[D.cZ.mp aqC];exact Vj) (λh1 apr hsb=>?_) Vi);have g:∀a o,4e4=0e4->h1.ao a=0e4:=λa o e=>hsb.mu a o 41e9 33e0;show⟨LG (λp z=>g _ _ (R.d8 p z)),aix ?_⟩;generalize apq:newEnv kl s.M.O.an iD [(nm 100,c2),(nm 31,c1)] _ _ _ L mW=ab;have hL:ab.cY=s.M.O.an:=by subst apq;rfl
 have apB:ab.ec=31e4:=by subst apq;rfl
 have apx:ab.bt=kl:=by subst apq;rfl
 have apz:ab.ha=iD:=by subst apq;rfl
 have apC:ab.jE=mW:=by subst apq;rfl
 have Vl:ab.b3=[(34e4,c2),(35e5,c1)]:=by subst apq;rfl
 have S:ab.bt.d9= .jL:=by rw[apx];exact Vi
 have E:∀m,ab.dB m=kl.bq.bY m:=λm=>by unfold eA.dB;rw[apx]
 clear apx;rw[<-hL]at apr;have A:=R.aiz hL apr g apB S ⟨l,apy⟩ (s.a1+[(nm 67,u1)].U);have yQ:(19e5).Ok d:=by
  show⟨S,apz,apC,λm h=>?_,by refine x.A.g9+1+_+_<_;lia,by refine x.A.jd+3+_+_<_;lia,Y.e9,Y.j7,⟨ab::l,by refine 38e8=_;rw[apy];rfl,λq=>nG q⟩,λC=>rfl⟩;have e:(19e5).ab.dB m=D.bY m [(33e9,hD.cV)]:=H;rw[e,D.lE]at h;clear e;split at h<;>rcases h with h|h<;>cases h
 have lc2:318 100=G c2:=by rw[Vl,D.lE,vQ]
 have lc1:318 31=G c1:=by
  rw[Vl,D.lE,show(35e5==34e4)=false from av];rw[D.lE,vQ]
 rw[aiC,ae3];set_option backward.match.sparseCases true in
 refine 346 (do
   let v<-78 Vf
   ky (lq 55 95)
   let t<-gr [v] (PySem.lr v)
   match pO.Or,t with
   | .i4,false| .Or,true=>b9 v
   |_,_=>boolOp (lq 55 95) .Or (qS [Vg] ab)) _ _ _
 show 27e5;show 23 (Ty ..);rw[yA (show vR (256 100 55 60)=true from H)];show 166 (qR (RH S (by rw[E];exact sc7) lc2 (Vh.eI g) ?_ av) av);clear Vh;show 25e5;have aiI:Cj ([CF].U+([]:D Tz).U) (145 (lq 55 89) [CF] ab) (L7 (lq 55 89) (L8 [] ab))=true:=by
  unfold Cj;rw[nb H];rfl
 unfold TA;rw[aiI];obtain⟨apA,apD,H⟩:∃apA,J[n]? =G apA/\w2= .N apA.1:=by cases rn using mG.cE with|Z apA apD=>exact⟨apA,apD,H⟩
 clear rn;show 184 (Tv (x:=19e5) A apD apw (show rS (.az r t0) 46=G "list.append" from H) ?_);show 27e5;unfold Cm;rw[show((lq 55 67).Mb==(lq 55 89).iH)=true from H];show 32e5;show ue (by rw[nb H];rfl) ?_;rw[nb H];refine 346 (do
   let v<-78 CF
   let eT<-39e9
   return eT++(<-gr eT (nc (145 (lq 55 89) [] ab)))) _ _ _
 show 27e5;show 23 (Sx ..);show 44 27e5;rw[nb H];refine 346 (do
   let v<-78 (256 31 69 73)
   let eT<-39e9
   return eT++(<-gr eT (nc (145 (lq 68 88) [M8] ab)))) _ _ _
 show 166 (qR (RH S (by rw[E];exact sc6) lc1 (ic1.eI g) ?_ av) av);show 358 ?_;rw[nb H];refine 346 (do
   let v<-78 M8
   let eT<-39e9
   return eT++(<-gr eT (nc (145 (lq 68 88) [] ab)))) _ _ _
 show 27e5;show 23 (Cu ..);show 166 (qR (aiB S apz apC A.d8 (by rw[E];exact sc8) (show lk gl 118=G (.aa 19e6)from cI) ?_) av);clear apC apz;show ue (by rw[nb H];rfl) ?_;rw[nb H];refine 346 (do
   let v<-78 (256 67 80 86)
   let eT<-39e9
   return eT++(<-gr eT (nc (145 (lq 75 87) [] ab)))) _ _ _
 show 166 (qR (RG S (by rw[E];exact Vj) apr (v:=u1) (by simp-fu [D.lE]) ?_) av);show 358 (bH (bH ⟨⟨.ud,15e6,.qW H⟩,?_⟩));show UE (x:=19e5) yQ A (266 (dP (je g) r1)) ?_ (fz:=true);rw[apu []];show⟨aiH,λj f apE R3 K3 r3=>?_⟩;show 358 (bH 32e5);show 32e5;show aM.of (Sy ?_ (by refine 2<=_;rw[f3];lia));show oA (R3.jy (jY (h:=f.M) (308 ([w1,apE]:2e5).gG)) f.a1) λR4 K4=>?_;show 358 (bH (bH ⟨⟨.ud,15e6,.qW H⟩,?_⟩));have Vm:f8 (J++j) (J++j) f.M (f.M.b6 (308 ([w1,apE]:2e5).gG)):=je (jY _);have rk3:RV (J++j) f.M k w1:=dP (A.eI K3) (dP (je g) aqB);have aqD:RV (J++j) (f.M.b6 (308 ([w1,apE]:2e5).gG)) (.X [k,w]) (.N f.M.O.an):= .X _ _ [w1,apE] ⟨_,10e0,H,_,H⟩ (by refine 2<=_;decide) (327 (dP Vm rk3) (dP Vm r3));have aiJ:(J++j)[n]? =G apA:=by rw[379 apD];exact apD
 have B:r.U+1<=16777216/\∀m s' aps,167 J m (F.cN n (.az (r++[.X [k,w]]) t0)) s'->71 m s'.M->RV (J++m) s'.M 11e0 aps->Q aps s':=by
  unfold gv at P;cases t0 with
  |true=>exact⟨P.1 _ (.rq _),P.2⟩
  |false=>
   dsimp only at P;cases apF:I.g6 (r.U+1) 16777216 with
   |true=>rw[apF]at P;exact⟨I.cz apF,P.2⟩
   |false=>rw[apF]at P;exact P.ak
 obtain⟨B,P⟩:=B;obtain⟨ob,hob,q1⟩:∃ob,gv (r.U+1) t0 ⟨F.O,[],F.bG⟩= .aT () ⟨F.O,[],F.bG⟩ ob/\∀p∈ob,p:=by
  unfold gv;cases t0 with
  |true=>exact⟨_,H,λp z=>by rw[D.cZ.mp z];exact B⟩
  |false=>exact⟨[],by dsimp only;rw[I.Ur.bn B];rfl,λC h=>nomatch h⟩
 show aM.of (Lv (x:=19e5) R4 aiJ apw aqD ?_);clear apw;rw[hob];show⟨λp z=>q1 p (by simpa-fu using z),λm2 W u5 R5 K5 r5=>?_⟩;cases r5;show 44 (184 (BO (x:=19e5) (F:=F) (J:=[]) (v:= 0e6) (show lr F.O 0e6=G (false,false)from H) 14e9 λkk=>?_));refine 346 (do ky (lq 93 95);Sz (<-nc (145 (lq 93 95) [] ab))) _ _ _;show 44 (182 (aM.of (J6 ?_ (by refine 0<=_;exact 31e7))));show oA (R5.jy (jY (h:=W.M) (309 ([]:2e5).gG)) kk) λR6 K6=>?_;have apv:Kp J (j++[]++m2++[]) 19e5 h1 (W.M.b6 (309 ([]:2e5).gG)):=by
  have a:=K3.aV K4;have b:Kp (J++(j++[])) m2 19e5 (f.M.b6 (308 ([w1,apE]:2e5).gG)) W.M:=by rw[D.dZ];exact K5
  have c:Kp (J++(j++[]++m2)) [] 19e5 W.M (W.M.b6 (309 ([]:2e5).gG)):=by rw[D.dZ,<-D.eP];exact K6
  exact(a.aV b).aV c
 rw[D.dZ,D.dZ]at apv;rw[D.eP]at R6;have pX:s.M.O.an<=h1.O.an:=by rw[<-hL];exact I.jz apr.lt
 show oA (R.aiA (s1:=(350 h1 s.a1 [(nm 67,u1)].U)) 38e9 apB ⟨l,apy⟩ g pX R6 apv) λaqE K7=>?_;clear hL apB;show P (j++m2) _ _ aqE K7 (.ad [] false _ [] ⟨_,10e0,H,_,H⟩ (λq=>?_) 31e7 .aR);clear P;have:=R5.up _ (by rw[D.eP];exact q);exact 293 bb
section
variable{ih:Ih}{d:I}{sc:cD}
def aH.j3{γ δ:Type}{x:Fx}{J:aW}{ih:Ih}{a b:apw}{F:MS}{s:ae}{e:2e5->ae->Prop}{EE:0e5}
  {f:V->V->MS->R γ} {br:200 γ δ} {Q:38e2}
  (P:11 (132 30e1 ((76 b) λw F=>f v w F)))
  (h:∀v w du m2 k u1 u2,167 J m2 du k->71 m2 k.M->RV (J++m2) k.M v u1->RV (J++m2) k.M w u2->11 (f v w du)->e [u1,u2] k):
  100 (ke ih [a,b] F) (pU 2) e:=by
 refine 100 (132 30e1 ((ke ih [b] F).aF (317 (v::vs)))) (pU 2) e;generalize ck ih a F=r at P⊢;cases r with
 |a8 i aS ob=>exact P
 |no=>exact P.ak
 |aT v aS ob=>
  have P:11 (((ck ih b aS).aF λw F=>f v w F).cj ob):=P;show oA 26e9 λq P=>?_;refine 100 (((ke ih [b] aS).aF (317 (v::vs))).cj ob) (pU 2) e;refine 100 ((((ck ih b aS).aF (395 [v])).aF (317 (_::vs))).cj ob) (pU 2) e;generalize ck ih b aS=r2 at P⊢;cases r2 with
  |a8 i du mo=>
   refine 100 (.a8 i du (ob++mo)) (pU 2) e;exact⟨λp m=>(301 m) (q p) (P.1 p),P.2⟩
  |no=>exact P.ak
  |aT w du mo=>
   have P:11 ((f v w du).cj mo):=P;show oA 26e9 λu P=>?_;refine 100 (.aT [v,w] du (ob++(mo++([]++[])++[]))) (pU 2) e;show⟨λp m=>?_,λaC s' us R apv r=>?_⟩
   ·rw[D.dZ,D.dZ,D.dZ]at m;exact(301 m) (q p) (u p)
   ·show oA r λr j=>?_;cases r with
    |aQ r1 n=>
     cases n with
     |aQ r2 n=>
      cases n;exact h v w du aC s' _ _ R apv r1 r2 P
def aiK{A B:PySem.a0}{a b:apw}{id:am}{p aU:dA}(apF:kU ih d sc A a)(C:kU ih d sc B b)(h1:hy id 70=true)(h2:ew sc id .lB=true):PI ih d sc (.jT (174 p) [A,B] [] aU) (170 70 [a,b]):=by
 intro F x J s Q EE Y apr R P;have P:64 (132 30e1 ((76 b) λw F=>gB (Qt v) 102 (gN (xp F.O w) 102 λapy=> 7 .aR))) (mK x s.M):=P;rw[Cu];show aZ (yk (d:=d) (F:=F) (aU:=p) h1 h2 x J s _ EE Y apr R ?_);unfold mI;rw[show lk gl 70=G (.aa 45e4)from cI];refine 100 (125 (.aa 45e4) F) RV _;show⟨λapy h=>(nomatch h),λaC s' u R' apz r=>?_⟩;cases r;have P':=P.qM apz;show ue (Ch (327 apF C)) (vL (327 apF C) F x _ s' _ EE Y apr R' ?_);show aH.j3 P' λv w du m2 k u1 u2 app apt r1 r2 z=>⟨⟨.ud,15e6,.qW H⟩,?_⟩;have eg:∀(t f:aI) (apu:16e5),jm k.M t #[]->k.M.gY f apu->aH x (J++aC) s' (Internal.R.Y It.aR du) (mK x s.M) Q EE->283 (aX 45e4 [.N t,.N f]) k:=by
  intro t f apu apD V z;show aM.of (acS apD V λh' hz hp g hs apv=>?_);have E:=app.jy apv k.a1;have apE:=apt.aV E.2;rw[D.dZ]at apE;have tlt:t<k.M.O.an:=apD.lt;show z.2 m2 _ _ E.1 apE (.aR _ [k.M.O.an+4,k.M.O.an] ⟨⟨_,_,hz,H⟩,?_,?_⟩ (D.dQ ..) ?_ ?_ ?_)
  ·intro i Q3 apC apq W j;have apA:tv i.M (k.M.O.an+4) (k.M.O.an+2) (k.M.O.an+3) .L:=apq _ (D.dQ ..) _ hz;have hi3:xf i.M k.M.O.an t 0:=(by(show aN g λo e r=>?_;try clear g);exact⟨o,apq _ (54 (D.dQ ..)) o e,r⟩);have ht3:jm i.M t #[]:=W _ _ (apD.eI apv);show acP Y.e9 (I.iq (I.aiL aq)) (I.iq (I.mH tlt (I.tS _ 4))) apA (W _ _ ⟨_,hp,H,_,H⟩) hi3 ht3 λaps hk4=>j aps i.a1 λb o S e=>hk4 b o (λq=>S (by simp[q])) (λq=>S (by simp[q])) e
  ·intro i Q3 apC apq W j;have apA:tv i.M (k.M.O.an+4) (k.M.O.an+2) (k.M.O.an+3) .L:=apq _ (D.dQ ..) _ hz;exact aiM apA j
  ·intro a n;rcases D.eS.mp n with H|n
   ·exact app.yH (I.tS _ 4) hz H H aq
   ·rw[D.cZ.mp n];(show dU g λo e c dd=>?_;try clear g);exact app.yH 11e7 e dd c aq
  ·intro a n;have apx:=apz.aV apt;rcases D.eS.mp n with H|n
   ·exact uj apx (I.tS _ 4)
   ·rw[D.cZ.mp n];exact uj apx 11e7
  ·intro i Q3 apC e j;exact aiM (show tv i.M _ _ _ _ from by rw[e];exact hz) j
 show fV z λapB P3=>eE P3 λl V P4=>?_;clear z;(show jB (Ll app V r2) λf aP yP S apy=>?_;subst yP);clear r2;cases r1 with
 |X m a its n hm rs=>
  clear hm;cases rs with
  |aR=>exact eg _ _ _ n S P4
  |aQ=>exact nF apB
 |_=>exact nF apB
universe e
inductive aqF where
 |x (E:PySem.a0) (e:apw)
 |t (E:PySem.a0) (e:apw)
 |s (S:cn) (s:Internal.S)
 |b (B:D cn) (b:D Internal.S)
abbrev Ck:=cD->aqF->al
def qe{α β:Type}(p:α->β->al):8e4->D β->al
 | [],m=>kh m
 |a::l,m=>lu m λb m=>p a b&&qe p l m
def Vn(c:PySem.jb)(v:V):al:=match v with
 | .aa x=>I.bZ x.cf 0&&I.bZ c.cf 0
 | .bp b _=>Re c λd=>d==b
 | .y i _=>Rf c λj=>275 j i
 | .ag s=>KG c λt=>t==s
 | .ch l=>Rh c λb=>275 b l&&I.g6 l.U 16777216
 |_=>false
def yT(c:Ck)(s:cD)(o:41e7)(e:ar apw):al:=match e with
 |L=>vv o
 |G e=>lv o λE=>89 E e
def yU(c:Ck)(h:cD)(s:10e4)(es:23e6):al:=qe (λE e=>vK E&&c h (.x E e)) s es
def CG(c:Ck)(x:cD):D 40e1->D jn->10e4->al
 | [],_,_=>false
 |p::ps,s,h=>lu s λop s=>lu h λE h=>275 op p.1&&(c x (.x E p.2)&&match ps with
  | []=>kh s&&(kh h&&!ae5 op E)
  |_::_=>lu s λa s=>lu h λe h=>CG c x ps (a::s) (e::h))
def M9(c:Ck)(x:cD):D (apw×apw)->D 41e7->10e4->al
 | [],s,h=>kh s&&kh h
 |p::l,s,h=>lu s λapv s=>lu h λV h=>lv apv λapv=>c x (.x apv p.1)&&(c x (.x V p.2)&&M9 c x l s h)
def yV(s:cD)(apu:PySem.a0)(n:I):al:=m6 apu λid h=>hy id n&&ew s id .lB
def CH(c:Ck)(h:cD)(s:10e4)(a:apw):al:=rY s λA=>vK A&&c h (.x A a)
def CI(c:Ck)(s:cD)(E:PySem.a0)(e:apw):al:=match AZ e with
 |L=>89 E e
 |G z=>xS E λapu h x r=>kh x&&match z with
  | .a4 a=>yV s apu 44&&CH c s h a
  | .aE (.a4 a)=>yV s apu 57&&CH c s h a
  | .aE (.aE (a,b))=>yV s apu 70&&lu h λA h=>vK A&&(89 A a&&CH c s h b)
def Na(E:PySem.a0):al:=!I.bZ E.cf 7
def hT(s:cD)(apq:PySem.a0)(k:I):al:=m6 apq λid h=>id==5e5&&(147 s id||ew s id .dm)
def CJ(s:cD)(apq:PySem.a0)(x:Tg):al:=match x with
 | .n k=>hT s apq k
 | .t l=>tG apq λh e e=>qe (hT s) h l
def Nb(s h:cD)(m:Tg):al:=bM (s.d9= .jL)&&bM (s.bq.aj (·.1)).dX&&s.bq.dM (λp=>match p.2 with
  | .cV=>(MH m).fP (λk=>p.1==5e5)||p.1==33e9
  | .eH=>ew h p.1 .dm||ew h p.1 .eH
  | .dm=>false
  |_=>true)&&147 s 33e9
def CK(c:Ck)(s:cD)(a apq:PySem.a0)(b:10e4)(x:apw)(h:Tg)(r:23e6):al:=match h with
 | .n m=>m6 apq λid p=>id==nm m&&147 s id&&(qe (λE e=>c s (.t E e)) b r&&89 a x)
 | .t _=>true
def CL(c:Ck)(s:cD)(E:PySem.a0)(x:apw)(h:Tg)(it:apw)(a:23e6):al:=Bj E λe gs cs b=>rY gs λg=>
 decide (g.is_async=0)&&(Nb cs s h&&(! 147 s 33e9&&(CI c s g.lO it&&(Na g.lO&&CK c (qc cs s) e g.iT g.j9 x h a))))
def LN(apu:PySem.a0):al:=I.bZ apu.cf 23||(I.bZ apu.cf 21||I.bZ apu.cf 16)
def v0(c:Ck)(s:cD)(E:PySem.a0)(e:apw):al:=match e with
 | .c v=>KA E λk h h=>Vn k v
 | .l n=>m6 E λid h=>hy id n&&147 s id
 | .eV n=>m6 E λid h=>hy id n&&(ew s id .dm||ew s id .eH)
 | .oH n=>m6 E λid h=>hy id n&&(ew s id .dm||ew s id .eH)
 | .g n=>yV s E n
 | .eZ o n=>xT E λaps a h=>a==4e6&&(vR aps&&89 aps o)
 | .a2 a i=>xU E λA apy h=>89 A a&&89 apy i
 | .kL a lo u=>xU E λA apy h=>KB apy λapt apA t h=>vv t&&(89 A a&&(yT c s apt lo.pE&&yT c s apA u.pE))
 | .a7 op a b=>QT E λA d B h=>275 d op&&(89 A a&&89 B b)
 | .pz a=>Bh E λop A h=>305 .Not&&89 A a
 | .g5 a=>Bh E λop A h=>305 .USub&&89 A a
 | .ll l=>xR E λop r h=>305 .i4&&qe (λE e=>89 E e) r l
 | .i7 l=>xR E λop r h=>305 .Or&&qe (λE e=>89 E e) r l
 | .bU a o l=>Ky E λA j r h=>89 A a&&CG c s (o.fx l) j r
 | .fg t a b=>Kx E λapq A B h=>c s (.t apq t)&&(89 A a&&89 B b)
 | .X l=>tG E λr h h=>yU c s r l&&I.g6 l.U 1000
 | .ad l=>eList E λr h=>yU c s r l
 | .oJ k v=>QV E λm q h=>M9 c s (k.fx v) m q&&I.jP (k.fx v).U 16
 | .iF x w it app=>CL c s E x w it app
 | .aX f es=>xS E λapu r p h=>kh p&&(LN apu&&(89 apu f&&yU c s r es))
 | .bl o n es=>xS E λapu r p aU=>kh p&&xT apu λaps a sw=>a==4e6&&(vR aps&&(89 aps o&&(yU c s r es&&(I.jP r.U 30&&sw.Mb==aU.iH))))
 | .lam=>false
 | .d3 _=>false
def v6:apw->apw
 | .d3 e=>e
 |e=>e
def Nc:PySem.a0->al
 | .rZ .Not _ _=>false
 | .pO .. =>false
 | .vw .. =>false
 | .vx .. =>false
 |_=>true
def Vo(c:Ck)(s:cD)(E:PySem.a0)(e:apw):al:=match e with
 | .pz a=>Bh E λop A x=>305 .Not&&c s (.t A a)
 | .ll l=>xR E λop h x=>305 .i4&&qe (λE e=>c s (.t E e)) h l
 | .i7 l=>xR E λop h x=>305 .Or&&qe (λE e=>c s (.t E e)) h l
 | .fg t a b=>Kx E λapq A B x=>c s (.t apq t)&&(c s (.t A a)&&c s (.t B b))
 | .bU a o l=>Ky E λA r h x=>89 A a&&CG c s (o.fx l) r h
 |e=>Nc E&&v0 c s E (v6 e)
def Nd(c:Ck)(s:cD):I->PySem.a0->Internal.apq->al
 |0,_,_=>false
 |k+1,apq,t=>match t with
  | .n m=>hT s apq m
  | .a x n=>xT apq λaps a h=>a==4e6&&89 aps x
  | .s x r=>xU apq λaps apy h=>89 aps x&&89 apy r
  | .sl x lo b=>xU apq λaps apy h=>KB apy λapt apA t h=>vv t&&(89 aps x&&(yT c s apt lo&&yT c s apA b))
  | .t ts=>tG apq λe h h=>qe (λapq t=>43e8&&Nd c s k apq t) e ts
def Nf:50e8->ar (D I)
 | []=>G []
 |t::l=>match t with
  | .n k=>(Nf l).aj (k:: ·)
  |_=>L
def Ng(c:Ck)(h:cD)(apq E:PySem.a0)(t:Internal.apq)(e:apw):al:=m6 apq λs r=>tn t λk=>Rb (v6 e) λx a it p=>(Bj E λb b cs aU=>
 s==5e5&&(147 h s&&(r.iH==aU.iH&&!(cs.bq.fP λ(n,k)=>n==s&&(k== .cV||k== .dm)))))&&CL c h E x a it p
def Vp(o:PySem.a0->am->I->al)(B:11e1)(b:15e5):al:=rY B λS=>KD S λR h=>lv R λR=>tG R λx h h=>lu x λapv x=>rY x λA=>KA apv λz h h=>xT A λaps w h=>
 rY b λs=>Rd s λr=>lv r λr=>Ra r λes=>lu es λapp es=>rY es λa=>xc app λv=>Q9 a λe n=>KG z λz=>abp v λp=>xl e λk=>z==p&&(w==4e6&&(I.bZ n 58&&o aps z k))
def Nh(x:cD):D (apw×ar I×15e5)->D q0->al
 | [],hs=>kh hs
 |(e,o,b)::p,hs=>lu hs λh hs=>Nh x p hs&&match h with
  | .q0 C i B _=>lv C λC=>m6 C λa r=>lv i λs=>xg e λk=>lv o λn=>
   hy a k&&(ew x a .lB&&(hy s n&&(147 x s&&Vp (λaps r m=>I.bZ n m&&m6 aps λid r=>id==s) B b)))
def Vq(c:Ck)(x:cD)(S:cn)(s:Internal.S):al:=match s with
 | .bz t e=>QZ S λk E p=>rY k λapq=>cC (vS E) (c x (.x E e)&&lv (yF x apq E) λr=>match r with
    |L=>43e8&&Nd c x 3 apq t
    |G l=>tG apq λp p p=>tG E λp p p=>tt t λts=>lv (Nf ts) λns=>decide (l=ns.aj nm)&&(ns.dM (λn=>147 x 4e6)&&bM ns.dX)) (Ng c x apq E t e)
 | .ex e=>Q7 S λE p=>vS E&&c x (.x E e)
 | .bk o=>KD S λr p=>match o with
  |L=>vv r
  |G e=>lv r λE=>c x (.x E e)
 | .bD t a b=>Q4 S λapq A B p=>c x (.t apq t)&&(c x (.b A a)&&c x (.b B b))
 | .lQ t b=>Q1 S λapq B apu p=>kh apu&&(c x (.t apq t)&&c x (.b B b))
 | .mw m i b=>Q0 S λapq apy B apu p=>kh apu&&(CJ x apq m&&(CI c x apy i&&(Na apy&&c x (.b B b))))
 | .kM e=>Q5 S λE C p=>vv C&&lv E λE=>c x (.x E e)
 | .AQ b hs=>KF S λB apz apx apu p=>kh apx&&(kh apu&&(c x (.b B b)&&lu apz λh0 h=>Nh x hs (h0::h)))
 | .xi b f=>KF S λB apz apx apu p=>kh apz&&(kh apx&&(c x (.b B b)&&lu apu λv apu=>c x (.b (v::apu) f)))
 | .AR=>Q8 S λp=>true
def fe:I->Ck
 |0,_,_=>false
 |k+1,sc,t=>match t with
  | .x E e=>v0 18e1 sc E (v6 e)
  | .t E e=>Vo 18e1 sc E e
  | .s S s=>Vq 18e1 sc S s
  | .b B b=>match b with
   | []=>kh B
   |s::b=>lu B λS B=>fe k sc (.s S s)&&fe k sc (.b B b)
def Vr(o:aA):ar jD:=match o.bf with
 | .ml fd=>G fd
 |_=>L
def lG(P:ay)(a:I):ar jD:=((8e0).nw (353 a)).cr λp=>Vr p.2
noncomputable def Ni(P:ay)(a:I)(fn:Fn):al:=match lG P a with
 |G fd=>(match fd.cX with
  | .mU B=>fe 60 fd.bt (.b B fn.cX)
  |_=>false)
 |L=>false
def q2(r:2e9):3e2:=r.aF λa F=>match a with
   | .v v=> 21e8
   |_=> .no 118
def iK(d:I)(tk:Tk)(F:MS)(r:2e9):Prop:=match tk with
 | .x e=>(∀k sc E,fe k sc (.x E e)=true->43 E (ck (λa a=>r) e F))/\∀k sc apq E t aU q,Ng 18e1 sc apq E t e=true->JS d sc (.pQ [apq] E aU) F (132 (ck (λa a=>r) e F).aF (m3 (jQ q 3 t v F)))
 | .t e=>∀k sc E,fe k sc (.t E e)=true->JT d sc E F (mz (λa a=>r) e F)
 | .s s=>(∀k sc S,fe k sc (.s S s)=true->JS d sc S F r)/\∀k sc apq B t b,s= .lQ t b->fe k sc (.t apq t)=true->fe k sc (.b B b)=true->JW d sc apq B F r
 | .ss b=>∀k sc B,fe k sc (.b B b)=true->JB d sc B F r
 | .aX f as=>JC d f as F (q2 r)/\∀(x:Fx) (J:aW) (s:ae) (Q:0e5) (EE:0e5),10 (q2 r)->kW F f
 | .gk h it i b=>∀k sc apq B,CJ sc apq h=true->oR it h=true->fe k sc (.b B b)=true->JF d sc apq it i B F r
 | .mx x h w it i j=>∀k ko p n apq m cs aU,CK 18e1 ko p apq m x h w=true->oR it h=true->JE d ko (133 p apq n m cs) it i j F r
def fQ(ih:Ih)(d:I):Prop:=∀tk F,iK d tk F (ih tk F)
section
variable{ih:Ih}{d k:I}{sc:cD}
def fQ.x(apz:14e3)(h:fe k sc (.x E e)=true):PX ih d sc E e:=λF=>(apz (.x e) F).1 k sc E h
def fQ.t(apz:14e3)(h:fe k sc (.t E e)=true):PT ih d sc E e:=λF=>apz (.t e) F k sc E h
def fQ.b(apz:14e3){B:11e1}{b:15e5}(h:fe k sc (.b B b)=true):PB ih d sc B b:=λF=>apz 12e5 F k sc B h
def q3{α β:Type}{p:α->β->al}{q:17e7}(h:∀a b,p a b=true->q a b):∀{l:8e4} {m:D β},qe p l m=true->cJ q l m
 | [],_,e=>ki e .aR
 |a::_,_,e=>lW e λb s e=> .aQ (h a b (ba e).1) (q3 h (ba e).2)
def fQ.xs(apz:14e3)(h:yU 18e1 sc Es es=true):cJ (kU ih d sc) Es es:=q3 (λE e h=>⟨7e5,apz.x 7e0⟩) h
def fQ.o(apz:14e3)(h:yT 18e1 sc E e=true):PO ih d sc E e:=by
 cases e with
 |L=>exact xQ h .L
 |G e=>exact pN h λE h=> .G (apz.x h)
def fQ.c(apz:14e3):∀{s:D jn} {x:10e4},CG 18e1 sc ps s x=true->FC ih d sc s x ps:=by
 induction ps with
 |aR=>exact λh=>nF h
 |aQ p ps b=>
  obtain⟨a,e⟩:=p;intro s x h;show lW h λop s h=>lW h λE x h=>?_;cases fq (ba h).1;have h:=7e0;cases ps with
  |aR=>exact ki 27e9 (ki (27e4).1 (.ej (al.w8 _▸(27e4).2) 45e0))
  |aQ q ps=>exact lW 7e0 λm s g=>lW g λr x g=> .aQ 45e0 (b g)
def fQ.dd(apz:14e3):∀{l:D (apw×apw)} {x:D 41e7} {e:10e4},M9 18e1 sc l x e=true->FD ih d sc x e l
 | [],_,_,h=>ki 7e5 (ki 7e0 .aR)
 |_::_,_,_,h=>lW h λs s h=>lW h λs s h=>pN h λs h=> .aQ 45e0 52e1 (fQ.dd apz 31e6)
def aiN(h:Vn c v=true):KC c v:=by
 cases v with
 |aa x=>
  show oA 18e3 λh1 h2=>?_;cases x<;>first|(cases h1;done)|(cases c<;>first|(cases h2;done)|exact .L)
 |bp b _=>exact adE h λd h=>jx h▸ .bp _ _
 |y i _=>exact adF h λd h=>fq h▸ .y _ _
 |ag s=>exact Rg h λd h=>jx h▸ .ag _
 |ch l=>exact adG h λd h=>by cases fq (ba h).1;exact .ch _ (I.cz 7e0)
 |_=>cases h
def aiO(apz:14e3)(m:nY)(p:∀fz,∀x:Fx,qX ih fz d x)(u:∀x r it w,e≠ .iF x r it w)(h:v0 18e1 sc E e=true)(fz:al)(F:MS):43 E (tD ih fz e F):=by
 cases e with
 |c v=>exact QX h λs s s h=>aeP (aiN h)
 |l n=>exact oS h λs s h=>Sn 7e5 7e0
 |eV n=>exact oS h λs s h=>So 7e5 7e0
 |oH n=>exact oS h λs s h=>So 7e5 7e0
 |g n=>exact oS h λs s h=>yk 7e5 7e0
 |eZ o n=>exact Bk h λs s s h=>jx 7e5▸af3 m (apz.x 31e6) 27e9
 |a2 a i=>exact Bl h λs s s h=>agp 45e0 (apz.x 7e0)
 |kL a lo S=>exact Bl h λs s s h=>QY h λs s s s h=>xQ 7e5 (agn 52e1 (apz.o (27e4).1) (apz.o (27e4).2))
 |a7 op a b=>exact eBinOp_ h λs s s s h=>42e4▸aeR (apz.x 27e9 F) (apz.x 31e6)
 |pz a=>exact Kw h λs s s h=>42e4▸aeT (apz.x 7e0 F)
 |g5 a=>exact Kw h λs s s h=>42e4▸aeW (apz.x 7e0 F)
 |ll l=>exact Bf h λs s s h=>42e4▸Ss (op:= .i4) (397 (apz.x h) 7e0)
 |i7 l=>exact Bf h λs s s h=>42e4▸Ss (op:= .Or) (397 (apz.x h) 7e0)
 |bU a o l=>exact QW h λs s s s h=>afa 45e0 (apz.c 7e0)
 |fg t a b=>exact QU h λs s s s h=>aeX (apz.t 7e5 F) 52e1 (apz.x 31e6)
 |X l=>exact tH h λs s s h=>aff (apz.xs 7e5) 7e0
 |ad l=>exact ads h λs s h=>afg (apz.xs h)
 |oJ k v=>exact eDict_ h λs s s h=>jx_dic (apz.dd 7e5) 7e0
 |iF x r it w=>exact bL H (u _ _ _ _)
 |aX f es=>exact Kz h λapu P app aU h=>ki 7e5 (afP (apz.x (27e4).1) (apz.xs (27e4).2) (p fz) λab=>by
   have R:=27e9
   clear h
   cases apu<;>first|exact Cu .. |rfl|cases R)
 |bl o n es=>exact Kz h λapu P app aU h=>ki 7e5 (Bk 7e0 λs s s h=>by
   show oA 18e3 λh1 h=>?_
   show oA 18e3 λh2 h=>?_
   show oA 18e3 λh3 h=>?_
   show oA 18e3 λz h=>?_
   show oA 18e3 λq j=>?_
   repeat clear h
   cases jx h1
   exact af6 m (apz.x h3) h2 (apz.xs z) q j (p fz) λx=>ahG x)
 |lam=>cases h
 |d3 e=>cases h
universe e
section
variable{ih:Ih}{d k:I}{sc:cD}
set_option tactic.hygienic true in
theorem Nj{s:cD}{id:am}{k:hD}(h:ew s id k=true):s.bq.bY id=G k:=by
 unfold ew at h;split at h
 ·rename_i x e;rw[e,fq h]
 ·cases h
def aiP(h:Nb cs sc tg=true):un cs sc tg:=by
 unfold Nb at h;simp-fu only[al.lg,mX,D.iw]at h;(show oA h λs x=>?_;try clear h;(show oA s λs h3=>?_;obtain⟨h1,h2⟩:=s));show⟨h1,h2,λn e=>?_,λn e=>?_,λn e=>?_,Nj x⟩
 ·have:=h3 _ (nf e);simp only[al.Vt,D.qa,AB]at bb;exact bb
 ·have:=h3 _ e;simp only[al.Vt]at bb;exact bb.f5 Nj Nj
 ·exact nF (h3 _ (nf e))
def itx:apw ⊕ apw ⊕ apw×apw->apw
 | .a4 a=> 170 44 [a]
 | .aE (.a4 a)=> 170 57 [a]
 | .aE (.aE (a,b))=> 170 70 [a,b]
def apw.g_{x:apw}{n}(e:x.g?=G n):x= .g n:=by
 cases x with
 |g=>exact 11e6▸H
 |_=>exact 18e0
def apw.ca_{x:apw}{p}(e:x.xG=5e1):x= .aX p.1 p.2:=by
 cases x with
 |aX=>exact 11e6▸H
 |_=>exact 18e0
def aiQ{e:apw}{z:apw ⊕ apw ⊕ apw×apw}(h:AZ e=G z):e=itx z:=
 oB h λp h1 h=>oB h λn h2 h=>by
  rw[apw.ca_ h1,apw.g_ h2];obtain⟨f,es⟩:=p;clear h1 h2;cases es with
  |aR=>exact nS h
  |aQ a es=>cases es with
   |aR=>exact cS h 55e8 λs h=>cS h 55e8 λs h=>nS h
   |aQ b es=>cases es with
    |aR=>exact cS h 55e8 λs h=>nS h
    |aQ=>exact nS h
@[elab_as_elim] def Nk {C:PySem.a0->Prop} (h:yV sc apu n=true) (g:∀id p,hy id n=true->ew sc id .lB=true->C (.dr id p)):C apu:=oS h λa b h=>g a b (ba h).1 (ba h).2
@[elab_as_elim] def Nl (apz:fQ ih d) {C:D PySem.a0->Prop} (h:CH (fe k) sc aqG a=true) (g:∀A,kU ih d sc A a->C [A]):C aqG:=tF h λA h=>g A ⟨(ba h).1,apz.x (ba h).2⟩
def Vu(apz:14e3)(h:CI 18e1 sc E e=true):PI ih d sc E e:=by
 unfold CI at h;cases q:AZ e with
 |L=>rw[q]at h;exact ag3 (apz.x h) λF=>by unfold tC;first|(rw[q];done)|(rw[q];rfl)
 |G z=>
  rw[q]at h;rw[aiQ q];clear q;show Kz h λapu s x r h=>ki 7e5 ?_;have h:=7e0;rcases z with a|a|⟨a,b⟩
  ·exact Nk 7e5 λid p h1 h2=>Nl apz 7e0 λA g=>ag4 g h1 h2
  ·exact Nk 7e5 λid p h1 h2=>Nl apz 7e0 λA g=>ag6 g h1 h2
  ·exact Nk 7e5 λid p h1 h2=>lW 7e0 λA s h=>Nl apz 31e6 λB g=>aiK ⟨7e5,52e1⟩ g h1 h2
def Vv{apy:PySem.a0}(h:Na apy=true)(ab:eA)(x:af):u9 apy ab x=b9 x:=by
 cases apy<;>first|rfl|cases h
@[elab_as_elim] def Vw (apz:fQ ih d) {C:PySem.a0->Prop} (h:CL (fe k) sc E x tg it j9=true)
  (g:∀a apq s e cs aU,un cs sc tg->sc.bq.bY (".0" :am)≠G .cV->PI ih d sc s it->(∀ab x,u9 s ab x=b9 x)->CK (fe k) (qc cs sc) a apq e x tg j9=true->C (.gW a [⟨apq,s,e,0⟩] cs aU)):C E:=
 adr h λa gs cs aU h=>tF h λ⟨apq,s,e,z⟩ h=>by
  cases fq (ba h).1;have h:=(ba h).2;show g a apq s e cs aU (aiP (ba h).1) (λq=>?_) (Vu apz (ba (ba (ba h).2).2).1) (Vv (ba (ba (ba (ba h).2).2).2).1) (ba (ba (ba (ba h).2).2).2).2;have h2:=(ba (ba h).2).1;unfold ew at h2;rw[q]at h2;cases h2
def aiR(apz:14e3)(h:CL 18e1 sc E x tg it j9=true)(fz:al)(F:MS):43 E (tD ih fz (.iF x tg it j9) F):=
 Vw apz h λs s s s s s h1 h2 h3 a b=>ahp (rl:=λvs j F=>ih (.mx x tg j9 vs 0 j) F) h1 h2 h3 a λvs j aS e=>apz (.mx x tg j9 vs 0 j) aS k _ _ _ _ _ _ _ b e
def aiS(apz:14e3)(b:nY)(a:∀fz,∀x:Fx,qX ih fz d x)(h:v0 18e1 sc E e=true)(fz:al)(F:MS):43 E (tD ih fz e F):=by
 cases e with
 |iF x r it p=>exact aiR apz h fz F
 |_=>exact aiO apz b a (λs s s s=>by intro q;cases q) h fz F
universe e
section
variable{ih:Ih}{d k:I}{sc:cD}
def Vx(r:3e2)(e:apw)(F:MS):ck (λs s=>mA r) e F=r:=by
 unfold ck mA;cases r with
 |aT a F o=>exact bC (R.aT a F) ((D.dZ _).aV (D.dZ o))
 |a8 i F o=>rfl
 |no=>rfl
def aiT(r:R al)(e:apw)(F:MS):mz (λs s=>r.aF λb F=> 7 (.b b)) e F=r:=by
 unfold mz;cases r with
 |aT a F o=>exact bC (R.aT a F) ((D.dZ _).aV (D.dZ o))
 |a8 i F o=>rfl
 |no=>rfl
def Vy(ih:Ih)(e:apw)(F:MS):∃fz,rT ih e F=tD ih fz (v6 e) F:=by
 cases e<;>first|exact⟨true,H⟩|exact⟨false,H⟩
def Vz(apz:14e3)(s:nY)(a:∀fz,∀x:Fx,qX ih fz d x)(h:v0 18e1 sc E (v6 e)=true)(F:MS):43 E (rT ih e F):=by
 show oE (Vy ih e F) λfz q=>?_;rw[q];exact aiS apz s a h fz F
def aiU{A:PySem.a0}(h:Nc A=true)(ab:eA):sV A ab (78 A)=(do let v<-78 A;ky A.aU;gr [v] (PySem.lr v)):=by
 cases A with
 |rZ op a p=>cases op<;>first|rfl|cases h
 |_=>first|rfl|cases h
def aiV(apz:14e3)(r:nY)(p:∀fz,∀x:Fx,qX ih fz d x)(h:Vo 18e1 sc E e=true)(F:MS):JT d sc E F (Kk ih e F):=by
 have hR:∀e,Nc E=true->v0 18e1 sc E (v6 e)=true->JT d sc E F (BY (rT ih e F) 127):=λe h1 h2=>ae0 (Vz apz r p h2 F) (aiU h1);cases e with
 |pz a=>exact Kw h λs s s h=>42e4▸aeY (apz.t 7e0 F)
 |ll l=>exact Bf h λs s s h=>42e4▸Su (op:= .i4) (397 (apz.t h) 7e0)
 |i7 l=>exact Bf h λs s s h=>42e4▸Su (op:= .Or) (397 (apz.t h) 7e0)
 |fg t a b=>exact QU h λs s s s h=>aeZ (apz.t 7e5 F) (apz.t 27e9) (apz.t 31e6)
 |bU a o l=>exact QW h λs s s s h=>afe (w:=127) 45e0 (apz.c 7e0)
 |_=>exact hR _ 7e5 7e0
@[elab_as_elim] def Nm {C:PySem.a0->Prop} {apq:PySem.a0} {n:I} (h:hT sc apq n=true) (g:∀p,(ew sc (nm n) .cV||ew sc (nm n) .dm)=true->C (.dr (nm n) p)):C apq:=oS h λa p h=>by
 cases jx (ba h).1;exact g p (ba h).2
def aiW(apz:14e3)(r:nY)(j:I):∀{apq:PySem.a0} {t:Internal.apq},Nd 18e1 sc j apq t=true->PA ih d sc j apq t:=by
 induction j with
 |i5=>intro apq t h;cases h
 |hI j b=>
  intro apq t h;cases t with
  |n m=>exact Nm h λx h=>Cp H h
  |a e n=>exact Bk h λx x x h=>jx 7e5▸agC r (apz.x 7e0)
  |s e v=>exact Bl h λx x x h=>agE 45e0 (apz.x 7e0)
  |sl e lo p=>exact Bl h λx x x h=>QY h λx x x x h=>xQ 7e5 (agG 52e1 (apz.o (27e4).1) (apz.o (27e4).2))
  |t ts=>exact tH h λx x x h=>TZ (q3 (λapq t h=>⟨7e5,b 7e0⟩) h)
def aiX{α β γ:Type}{p:α->γ->Prop}{f:β->γ}{l:8e4}{m:D β}(h:cJ (λa b=>p a (f b)) l m):cJ p l (m.aj f):=by
 induction h with
 |aR=>exact .aR
 |aQ a _ ih=>exact .aQ a ih
def CM{apq:PySem.a0}{x:Tg}(h:CJ sc apq x=true)(j:I):PA ih d sc (j+2) apq (MD x):=by
 cases x with
 |n k=>exact Nm h λs h=>Cp H h
 |t l=>exact tH h λs s s h=>TZ (aiX (q3 (λapq t h=>Nm (C:=λapq=>43e8=true/\PA ih d sc (j+1) apq (.n t)) h λs h=>⟨H,Cp H h⟩) h))
def CN{apq:PySem.a0}{x:Tg}{it:It}(h:CJ sc apq x=true)(h2:oR it x=true):Cs it apq:=by
 cases it with
 |gM s=>
  cases x with
  |n=>cases h2
  |t l=>exact tH h λe e e e=>⟨_,_,_,H⟩
 |_=>trivial
def aiY(h:(lv C λC=>m6 C λu x=>lv i λq=>xg e λk=>lv o λn=>
   hy u k&&(ew sc u .lB&&(hy q n&&(147 sc q&&Vp (λaps x j=>I.bZ n j&&m6 aps λid x=>id==q) B b))))=true):M6 sc (.q0 C i B p) (e,o,b):=by
 show pN h λC h=>oS h λu x h=>pN h λq h=>xg_ h λk h=>pN h λn h=>?_;show oA 18e3 λh1 h=>?_;show oA 18e3 λh2 h=>?_;show oA 18e3 λh3 h=>?_;show oA 18e3 λd hr=>?_;repeat clear h
 cases(t5 h1).1;cases(t5 h3).1;show tF hr λS h=>KE h λR x h=>pN h λR h=>tH h λf x x h=>lW h λapv f h=>tF h λA h=>QX h λz x x h=>Bk h λaps w x h=>
  tF h λs h=>adC h λr h=>pN h λr h=>adA h λes h=>lW h λapp es h=>tF h λa h=>xc_ h λv h=>adz h λe m h=>Rg h λz h=>adD h λP h=>xl_ h λj h=>?_
 show oA 18e3 λl h=>?_;show oA 18e3 λc h=>?_;show oA 18e3 λt h=>?_;show oA 18e3 λg hz=>?_;repeat clear h
 cases jx l;cases jx c;cases I.f0 t;cases I.f0 g;exact oS hz λid x h=>by cases jx h;exact .mk h1 h2 h3 d
def aiZ:∀{hs:D q0},Nh sc s hs=true->FH sc hs s:=by
 induction s with
 |aR=>exact λh=>ki h .aR
 |aQ q s ih=>
  obtain⟨e,o,b⟩:=q;exact λh=>lW h λa hs h=>by
   obtain(⟨C,i,B,p⟩):=a;exact .aQ (aiY 7e0) (ih 7e5)
universe e
section
variable{ih:Ih}{d k:I}{sc:cD}
def ai0{ts:50e8}:∀{ns:D I},Nf ts=G ns->ts=ns.aj .n:=by
 induction ts with
 |aR=>intro ns h;cases h;rfl
 |aQ t l s=>
  intro ns h;cases t with
  |n k=>
   (show aN (ar.hh.mp h) λm h1 x=>?_;subst x);rw[s h1];rfl
  |_=>exact nS h
def VA{α:Type}{o:29e4}{p}(h:lv o p=true):∃a,o=11e3/\p a=true:=pN (C:=λo=>∃a,o=11e3/\p a=true) h λa h=>⟨a,H,h⟩
def ai1(apz:14e3){apq E:PySem.a0}{t:Internal.apq}{e:apw}{aU:dA}{p:Ih}(h:Ng 18e1 sc apq E t e=true)(F:MS):JS d sc (.pQ [apq] E aU) F (132 (rT ih e F).aF (m3 (jQ p 3 t v F))):=by
 show oE (Vy ih e F) λfz q=>?_;rw[q];exact oS h λs r h=>Rc h λn h=>adB h λx a it b h=>Vw apz (C:=λE=>(Bj E λw w cs aU=>s==4e6&&(147 sc s&&(r.iH==aU.iH&&!(cs.bq.fP λ(n,k)=>n==s&&(k== .cV||k== .dm)))))=true->JS d sc (.pQ [.dr s r] E aU) F (132 (tD ih fz (.iF x a it b) F).aF (m3 (jQ p 3 (.n n) v F)))) 7e0 (λo apq l c cs aU g1 g2 g3 i m h=>
  aih (ih:=ih) (d:=d) (k:=3) (rl:=λvs j F=>ih (.mx x a b vs 0 j) F) g1 g2 g3 i (Cp (jx 7e5) (al.Vt _ _▸ .a4 27e9)) (ba 7e0).1 (27e4).1 (al.w8 _▸(27e4).2) λvs j aS u=>apz (.mx x a b vs 0 j) aS k _ _ _ _ _ _ _ m u) 7e5
def ai2(apz:14e3)(q:nY)(hX:ExF){S:cn}{s:Internal.S}(h:Vq 18e1 sc S s=true)(F:MS):JS d sc S F (A5 ih s F):=by
 cases s with
 |bz t e=>
  exact adt h λu E aU h=>tF h λapq h=>by
   cases m:vS E with
   |false=>rw[m]at h;exact(apz (.x e) F).2 k sc apq E t aU ih h
   |true=>
    rw[m]at h;show oA 18e3 λh1 h=>?_;show aN (VA h) λr p h=>?_;cases r with
    |L=>exact agR (apz.x h1) (aiW apz q 3 7e0) 7e5 m p
    |G l=>
     revert h1 p;exact tH h λx x x h=>tH h λx x x h=>tt_ h λts h=>by
      show aN (VA h) λns v h=>?_;rw[ai0 v];cases fq (ba h).1;exact λh1 p=>agS (k:=1) (apz.x h1) p 27e9 (fq 31e6)
 |ex e=>exact adx h λx x h=>af9 (apz.x 7e0 F) 7e5
 |bk o=>
  cases o with
  |L=>exact KE h λx x h=>xQ h agd
  |G e=>exact KE h λx x h=>pN h λx h=>agc (apz.x h F)
 |bD t a b=>exact adv h λx x x x h=>agf (apz.t 7e5 F) (apz.b 27e9) (apz.b 31e6)
 |lQ t b=>exact Q2 h λx x x x h=>ki 7e5 (TE (TD (apz.t 27e9 F) (apz.b 31e6) λaS=>(apz (.s (.lQ t b)) aS).2 k sc _ _ _ _ H 27e9 31e6))
 |mw n i b=>
  exact adu h λx x x x x h=>ki 7e5 (by
   show oA (ba 7e0) λh1 h=>?_
   show oA 18e3 λh2 h=>?_
   exact ag7 (rl:=λit F=>ih (.gk n it 0 b) F) (Vu apz h2) (Vv 7e5) λit aS w=>apz (.gk n it 0 b) aS k sc _ _ h1 w 7e0)
 |kM e=>exact adw h λx x x h=>xQ 7e5 (pN 7e0 λx h=>ah0 hX (apz.x h F))
 |AQ b hs=>exact Q6 h λx x x x x h=>ki 7e5 (ki 27e9 (lW (27e4).2 λx x g=>ah6 hX (apz.b (27e4).1) (aiZ g)))
 |xi b f=>exact Q6 h λx x x x x h=>ki 7e5 (ki 27e9 (lW (27e4).2 λx x g=>ah9 (apz.b (27e4).1) (apz.b g)))
 |AR=>exact ady h λx x=>age
def ai3(apz:14e3)(p:nY)(hX:ExF)(w:∀fz,∀x:Fx,qX ih fz d x){app:ar Ih}{c:al}{tk:Tk}(z:∀f as,tk≠ .aX f as)(F:MS):iK d tk F (ou ih app c tk F):=by
 cases tk with
 |x e=>
  show⟨λk sc E h=>?_,λk sc apq E t aU R h=>?_⟩
  ·cases k with
   |i5=>cases h
   |hI k=>
    refine 43 E (ck (λa a=>mA (rT ih e F)) e F);rw[Vx];exact Vz apz p w h F
  ·refine JS d sc _ F ((ck (λa a=>mA (rT ih e F)) e F).aF _);rw[Vx];exact ai1 apz h F
 |t e=>
  intro k sc E h;cases k with
  |i5=>cases h
  |hI k=>
   refine JT d sc E F (mz (λa a=>(Kk ih e F).aF λb F=> 7 (.b b)) e F);rw[aiT];exact aiV apz p w h F
 |s s=>
  show⟨λk sc S h=>?_,λk sc apq B t b e h1 h2=>?_⟩
  ·cases k with
   |i5=>cases h
   |hI k=>exact ai2 apz p hX h F
  ·subst e;exact TD (apz.t h1 F) (apz.b h2) λaS=>(apz (.s (.lQ t b)) aS).2 k sc _ _ _ _ H h1 h2
 |ss l=>
  intro k sc B h;cases k with
  |i5=>cases h
  |hI k=>
   cases l with
   |aR=>exact ki h af7
   |aQ s b=>exact lW h λa a h=>af8 ((apz (.s _) F).1 k sc _ 7e5) (apz.b 7e0)
 |aX f as=>exact bL H (z f as)
 |gk r it i b=>
  intro k sc apq B h1 h2 h3;exact Ct (kt:=0) (rb:=λF=>ih 12e5 F) (rl:=λF=>ih (.gk r it (i+1) b) F) (CM (ih:=ih) (d:=d) h1 0) (CN h1 h2) (apz.b h3) λaS=>apz (.gk r it (i+1) b) aS k sc apq B h1 h2 h3
 |mx x r v it i j=>
  intro k ko u P apq o cs aU h1 h2;cases r with
  |n m=>
   exact(oS (C:=λapq=>CK 18e1 ko u apq o x (.n m) v=true->JE d ko (133 u apq P o cs) it i j F _) h1 λa a g h0=>ahi (rl:=λF=>ih (.mx x (.n m) v it (i+1) j) F) (jx (ba (ba g).1).1) (ba (ba g).1).2 (397 (apz.t h) (ba (ba g).2).1) (apz.x (ba (ba g).2).2) (λs q=>by subst q;cases h2) λaS=>apz (.mx x (.n m) v it (i+1) j) aS k _ _ _ _ _ _ _ h0 h2) h1
  |t l=>exact ahj (w1:=159) (w2:=144)
universe e
def v7(P:ay)(fd:jD):D (aI×aA):=(sd P fd.zS).gi
def CO(q:aI×aA):2e5:=match q.2.bf with
 | .cH xs _=>xs.gi
 |_=>[]
def VB(P:ay)(apB:iB)(A:dg)(s:ae)(u:I->af)(fn:Fn)(fd:jD)(j:I):6e1×b5 (284 af)×ae:=
 rn apB A (DL fd ⟨(D.dS (fn.ps.U-fn.ds.U+j)).aj u,[]⟩) ((v7 P fd).aj (·.2)) s
def VC(P:ay)(s:ae)(u:I->af)(fn:Fn)(fd:jD)(j:I):6e1×b5 (284 af)×ae:=
 ((v7 P fd).aj λq=>s.M.ao q.1=G q.2,.b9 ((fn.ps.aj nm).fx ((D.dS (fn.ps.U-fn.ds.U+j)).aj u++((v7 P fd).tN CO).fi j)),s)
def Nn{α:Type}(P:ay)(p:I×Fn)(f:jD->I->α):8e4:=(lG P p.1).ak [] λfd=>(D.dS (p.2.ds.U+1)).aj (f fd)
set_option maxHeartbeats 0 in
theorem ai4(P:ay)(apB:iB)(A:dg)(s:ae)(u:I->af):ft.aj (λp=>Nn P p (VB P apB A s u p.2))=ft.aj λp=>Nn P p (VC P s u p.2):=av
def ai5(P:ay):ft.aj (λp=>p.2.ds.aj xJ)=ft.aj λp=>(lG P p.1).ak [] λfd=>((v7 P fd).tN CO).aj sb:=av
def ai6(P Q:ay):(ft.aj λp=>lG P p.1)=ft.aj λp=>lG Q p.1:=av
def CQ(fd:jD)(fn:Fn):Prop:=fd.bt.zF=false/\fd.bt.zG=false/\fd.bt.d9= .jL/\fd.ha=iD/\fd.rk=[]/\fd.jE=mW/\
 (fd.bt.bq.aj (·.1)).dX/\(∀app∈fd.bt.bq,app.2≠ .eH)/\fn.ps.dX/\(∀p∈fn.ps,fd.bt.bq.bY (nm p)=12e3\/fd.bt.bq.bY (nm p)=18e8)/\fn.ds.U<=fn.ps.U
def VD(fd:jD)(fn:Fn):rg (CQ fd fn):=by unfold CQ;infer_instance
def codeB(P:ay)(fd:jD):al:=(sd P fd.dI).fP λp=>match p.2.bf with
 | .cp vs=>(match(vs[1]? :12e4)with
  |G (af.ag q _)=>q==fd.pd
  |_=>false)
 |_=>false
def VE(fd:jD):11e1:=match fd.cX with
 | .mU B=>B
 |_=>[]
def okF(P:ay)(p:I×Fn):al:=(lG P p.1).fP λfd=>codeB P fd&&(@bM (CQ fd p.2) (VD fd p.2))
set_option maxHeartbeats 0 in
theorem VF(P:ay):ft.dM (okF P)=true:=av
def ai7(P:ay):ft.aj (λp=>(lG P p.1).aj (·.cX))=ft.aj λp=>(lG P p.1).aj λfd=> .mU (VE fd):=av
def ai8(P:ay):ft.dM (λp=>Ts 8e0 7e2)=true:=av
def ai9(P:ay):ct.dM (λp=>Ts 8e0 7e2)=true:=av
def aja(h:lG P a=G fd):∃o,(a,o)∈8e0/\o.bf= .ml fd:=by
 (show aN (ar.la.mp h) λs e h=>?_;obtain⟨b,o⟩:=s);cases(I.f0 (D.find?_some (p:=λp:aI×aA=>I.bZ p.1 a) e):b=a);show⟨o,D.uQ e,?_⟩;unfold Vr at h;cases hd:o.bf with
 |ml f=>rw[hd]at h;exact bC _ 52e4
 |_=>rw[hd]at h;exact nN h
def kA(s:d<=p)(h:u+(d-(u+d-p))=p):p-d+(u+d-p)=u/\u+d-p<d+1:=by
 have h1:p<=u+d:=I.dV (I.h8 h.bi) (I.ags (I.Sd ..) _);have h2:u<=p:=I.dV (I.tS ..) (I.h8 h);exact⟨by rw[I.BQ,I.sub_add_sub_cancel h1 s,I.add_sub_cancel],I.lt_succ_of_le (I.sub_le_iff_le_add'.bn (I.TQ h2 d))⟩
def ajb(h:codeB P fd=true)(A:253 hp):hp.zH fd.dI fd.pd:=by
 (show aN (51e8 h) λa x h=>?_;obtain⟨c,o⟩:=a);show oA (yc x) λe m=>?_;dsimp only at h e;cases hd:o.bf with
 |cp vs=>
  rw[hd]at h;dsimp only at h;cases s:vs[1]? with
  |L=>rw[s]at h;exact nF h
  |G u=>
   rw[s]at h;cases u with
   |ag q t=>exact⟨c,o,vs,t,e,A _ m,hd,s.aV (by rw[jx h])⟩
   |_=>exact nF h
 |_=>rw[hd]at h;exact nF h
def ajc(u:af)(us:2e5):(D.dS us.U).aj (λi=>us[i]?.ge u)=us:=
 D.ext_getElem (by rw[D.fs,D.VG]) λi h1 h2=>by rw[D.getElem_map,D.getElem_range,D.ie h2];rfl
def ajd(w:ay)(hm:(a,fn)∈ft)(k:∀P,lG P a=G fd)(m:fn.ds.U<=fn.ps.U)(s:ae)(P:ay)(apu:253 s.M)(J:aW)(vs:0e0)(us:2e5)(r:171 vs)
  (hl:(vs++fn.jr vs.U).U=fn.ps.U):∃b,cx J s.M (vs++fn.jr vs.U) b/\BindsTo s fd (61 us) ((fn.ps.aj nm).fx b):=by
 have hd:=110 (ai5 P) hm;rw[k P]at hd;have hd:fn.ds.aj xJ=((v7 P fd).tN CO).aj sb:=hd;have p:=iy r;have e:vs.U+fn.ds.U-fn.ps.U=us.U+fn.ds.U-fn.ps.U:=by rw[p]
 have e2:fn.jr vs.U=(((v7 P fd).tN CO).aj sb).fi (us.U+fn.ds.U-fn.ps.U):=by
  refine D.aj xJ _=_;rw[D.VH,hd,e]
 have n:us.U+(fn.ds.U-(us.U+fn.ds.U-fn.ps.U))=fn.ps.U:=by
  rw[p,<-D.sg,<-D.fs xJ,<-D.hP];exact hl
 have k1:fn.ps.U-fn.ds.U+(us.U+fn.ds.U-fn.ps.U)=us.U:=(kA m n).1;have k2:us.U+fn.ds.U-fn.ps.U<fn.ds.U+1:=(kA m n).2;rw[e2];show⟨_,r.lX ((RA _).fi _),λapB A E Q x=>?_⟩;have z:=110 (ai4 P apB A s λi=>us[i]?.ge .L) hm;dsimp only[Nn]at z;rw[k P]at z;have z:=110 z (D.CR.bn k2);unfold VB VC at z;rw[k1,ajc]at z;show sW _ z (λq h=>?_) x;(show aN (D.sr.mp h) λq x v=>?_;subst v);exact apu q (yc (ar.mem_toList.mp x)).2
def CS(s:ay)(h:lk ft a=G fn):∃fd B,(∀P,lG P a=G fd)/\fd.cX= .mU B/\yp a fn fd B:=by
 have hm:=iX h;show aN (51e8 (243 (VF s) hm)) λfd e z=>?_;have x:∀P,lG P a=G fd:=λP=>(110 (ai6 P s) hm).aV e;have b:=110 (ai7 s) hm;rw[e]at b;have r:fd.cX= .mU (VE fd):=ar.G.cF b;have g:CQ fd fn:= @fq _ (VD ..) (ba z).2;show⟨fd,_,x,r,λP=>?_,λh P A=>ajb ?_ A,r,g.1,g.2.1,g.2.2.1,g.2.2.2.1,g.2.2.2.2.1,g.2.2.2.2.2.1,g.2.2.2.2.2.2.1,g.2.2.2.2.2.2.2.1,g.2.2.2.2.2.2.2.2.1,g.2.2.2.2.2.2.2.2.2.1,ajd s hm x g.2.2.2.2.2.2.2.2.2.2⟩
 ·exact aja (x P)
 ·show aN (51e8 (243 (VF P) hm)) λk p z=>?_;rw[ar.G.cF ((x P).bi.aV p)];exact(ba z).1
set_option backward.match.sparseCases true
def VI(P:ay):nH.dM (λp=>(uc 8e0 p.1).fP (·.yv)&&Tf 8e0 p.1&&Cd 8e0 p.1)=true:=av
def aje(P:ay):(nH.aj λp=>iJ 8e0 7e2 "__getattribute__")=nH.aj (310 (G (.bJ "object.__getattribute__"))):=av
def ajf(P:ay):(nH.aj λp=>iJ 8e0 7e2 "__getattr__")=nH.aj (310 L):=av
def ajg(P:ay):(nH.aj λp=>iJ 8e0 7e2 "__setattr__")=nH.aj (310 55e3):=av
def ajh(P:ay):(nH.aj λp=>(Ka.ov (kd p.1)).aj λn=>iJ 8e0 7e2 4e6)=nH.aj λp=>(Ka.ov (kd p.1)).aj (310 L):=av
def ctM:D (I×al×D (I×I)):=ct.ov λp=>!p.2.1
def VJ(P:ay):(ctM.aj λp=>p.2.2.aj λq=>(iJ 8e0 7e2 (nm q.1),yt 8e0 (.N q.2)))=ctM.aj λp=>p.2.2.aj λq=>(G (47 q.2),G 47e1):=av
def VK:ctM.dM (λp=>(lk nH p.1).ir)=true:=av
def VL(h:lk nH C=G l):vP C:=by
 have hm:=iX h;have h1:∀P,(uc 8e0 C).fP (·.yv)=true/\Tf 8e0 C=true/\Cd 8e0 C=true:=λP=>by
  have:=243 (VI P) hm;simp only[al.lg]at bb;exact⟨bb.1.1,bb.1.2,bb.2⟩
 show⟨λP=>?_,λP=>110 (aje P) hm,λP=>110 (ajf P) hm,λP=>110 (ajg P) hm,λP=>(h1 P).2.1,λP n s=>?_⟩
 ·have:=(h1 P).1;cases q:uc (KL P) C with
  |L=>rw[q]at bb;cases bb
  |G cd=>rw[q]at bb;exact⟨cd,H,bb⟩
 ·have h2:=110 (ajh P) hm;show D.gH.mp h2 n (D.rB.bn ⟨?_,s⟩);unfold kd at s;show aN (D.qa.mp (al.nM.mp s).1) λk x e=>?_;rw[<-I.f0 e];exact x
def yW(h:nK C=G (false,ms)):(C,false,ms)∈ctM:=D.rB.bn ⟨iX h,H⟩
def VM(h:xI C n=G f):∃s,nK C=G (false,s)/\lk s n=G f:=by
 (show aN (ar.la.mp h) λx e h=>?_;obtain⟨b,s⟩:=x);cases b with
 |true=>exact nN h
 |false=>exact⟨s,e,h⟩
def aji:nY:=by
 have hm:∀C n f,xI C n=G f->vP C:=λC n f h=>by
  show aN (VM h) λx e a=>?_;have:=243 VK (yW e);show oE (ar.mV.mp bb) λl b=>?_;exact VL b
 show⟨λC n h=>?_,λC n f h=>⟨hm C n f h,⟨λP n f h=>?_⟩⟩⟩
 ·unfold kd at h;show aN (51e8 (al.nM.mp h).2) λl e a=>?_;exact VL e
 ·show aN (VM h) λx e s=>?_;have h1:=110 (VJ P) (yW e);have h2:=110 h1 (iX s);exact⟨bC kF.p9 h2,bC kF.snd h2⟩
def ajj:nm 166= "__init__" :=aq
set_option tactic.hygienic true in
theorem VN(h:nK C=G (false,ms))(x:lk ms 166=G i):Td C i:=by
 have h1:=243 VK (yW h);show oE (ar.mV.mp h1) λl a=>?_;have r:=D.rB.mp (yW h);have h2:∀P,Cd 8e0 C=true:=λP=>by
  have:=243 (VI P) (iX a);simp only[al.lg]at bb;exact bb.2
 have h3:∀P,iJ 8e0 2e8 (nm 166)=G (47 i)/\yt 8e0 (.N i)=G 47e1:=λP=>by
  have h1:=110 (VJ P) (yW h);have h2:=110 h1 (iX x);exact⟨bC kF.p9 h2,bC kF.snd h2⟩
 show⟨λP=>?_,h2,λP=>ajj▸(h3 P).1,λP=>(h3 P).2⟩;have s:=h2 P;unfold Cd at s;cases e:(KL P).bY C with
 |L=>rw[e]at s;cases s
 |G o=>
  rw[e]at s;obtain(⟨oc,b,dt,sl⟩):=o;cases dt with
  |bj cd=>exact⟨oc,b,cd,sl,Ta e⟩
  |_=>exact bL s al.lM
set_option backward.match.sparseCases false
def l6:D I:=[38,51,63,75]
def ajk(P:ay):(l6.aj λC=>iJ 8e0 2e8 "__init__")=l6.aj (310 (47 35)):=av
def ajl(P:ay):yt 8e0 (.N 35)=G 47e1:=av
def ajm(P:ay):(l6.aj λC=>iJ 8e0 2e8 "__setattr__")=l6.aj (310 55e3):=av
def ajn(P:ay):(l6.aj λC=>iJ 8e0 2e8 20e5)=l6.aj (310 L):=av
def ajo(P:ay):l6.dM (λC=>(uc 8e0 C).fP (·.yv))=true:=av
def ajp(P:ay):(l6.aj λC=>iJ 8e0 2e8 "__getattr__")=l6.aj (310 L):=av
def ajq(P:ay):(l6.aj λC=>iJ 8e0 2e8 "__getattribute__")=l6.aj (310 (G (.bJ "BaseException.__getattribute__"))):=av
def VO(oF:af):refuseLoop oF "__setattr__" yN=b9 ():=PySem.apu.store_Exception.passes oF
def ajr(h:ai)(P:ay)(A:253 h):sC 38 h:=by
 have e:h.ao 38=G (uq i6 i6 38 37 [22e7] yN true [] [.N 51,.N 63,.N 75] false L L (47 22) L (14 i6 196) (14 i6 204) 12e0 "Exception.__new__"):=pg A 38 _ av;show⟨⟨_,_,_,_,_,_,_,_,_,_,_,e,aq,aq,aq,aq,λoF=>by rw[VP];exact VO oF,2e6⟩,λoc x cd sl q=>?_⟩;rw[e]at q;cases q;exact⟨aq,aq,λa s=>by
  have:I.bZ a 38=false:=by cases z:I.bZ a 38 with|false=>rfl|true=>exact bL (I.f0 z) s
  rw[bb];simp[s]⟩
def No{C apC:aI}{nm q:am}{k0 k1 k2 k3 k5:12e4}(b:C≠38)(e:h.ao C=G (uq nm q C apC [32e6] (32e6::yN) true [] [] false L L k0 k1 k2 k3 k5 "Exception.__new__")):sC C h:=by
 show⟨⟨_,_,_,_,_,_,_,_,_,_,_,e,av,av,av,av,λoF=>by rw[VP,VP];exact VO oF,21e5⟩,λoc x cd sl q=>?_⟩;rw[e]at q;cases q;clear e;show⟨av,av,λa s=>?_⟩;by_cases z:a=C
 ·subst z;rw[I.sv];simp
 ·have:I.bZ a C=false:=by cases app:I.bZ a C with|false=>rfl|true=>exact bL (I.f0 app) z
  rw[bb];simp[s,z]
def ajs(h:nK C=G (true,ms)):C∈l6:=by
 have h1:(C,true,ms)∈ct.ov (λp=>p.2.1):=D.rB.bn ⟨iX h,H⟩;have h2:(ct.ov (λp=>p.2.1)).aj (·.1)=l6:=av;rw[<-h2];exact D.oz (f:=(·.1)) h1
def ajt{C:I}(h:C∈l6):ur C:=by
 show⟨λs P A=>?_,λP=>110 (ajk P) h,ajl,λP=>110 (ajm P) h,λP=>110 (ajn P) h,λP=>?_,λP=>110 (ajp P) h,λP=>110 (ajq P) h⟩
 ·simp only[l6,D.eS,D.mq,mr]at h;rcases h with H|rfl|rfl|rfl
  ·exact ajr s P A
  ·exact No (nm:=qn) (q:=qn) (apC:=50) (k0:=47 42) (k1:=L) (k2:=14 qn 225) (k3:=14 qn 233) (k5:=12e0) aq (pg A 51 _ av)
  ·exact No (nm:=qo) (q:=qo) (apC:=62) (k0:=47 54) (k1:=L) (k2:=14 qo 241) (k3:=14 qo 249) (k5:=12e0) aq (pg A 63 _ av)
  ·exact No (nm:=qp) (q:=qp) (apC:=74) (k0:=47 66) (k1:=L) (k2:=14 qp 257) (k3:=14 qp 265) (k5:=12e0) aq (pg A 75 _ av)
 ·have:=243 (ajo P) h;cases q:uc (KL P) C with
  |L=>rw[q]at bb;cases bb
  |G cd=>rw[q]at bb;exact⟨cd,H,bb⟩
def VQ:ExF:=λC h=>by
 (show aN (51e8 h) λs e h=>?_;obtain⟨b,x⟩:=s);cases b with
 |true=>exact ajt (ajs e)
 |false=>exact nF h
def aju(h:∀P,lG P 35=G fd)(x:fd.cX= .mU B)(s:ay):M0 fd.bt B:=by
 have e:lG s 35=G (zR (dk 2 0) S6 (.L) (.ag S4 194) (.N 34)):=av;have:=(h s).bi.aV e;cases bb;have a:uK (dk 2 0)=B:=by cases x
 subst a;exact⟨av,av,av,av,av⟩
section
variable{α β:Type}
def ajv(o:6e1)(r:54e0):ib (R.cj o r)=R.cj o (ib r):=by cases r<;>rfl
universe e
def ajw(r:3e2):q2 (mA r)=r:=by
 unfold q2 mA;cases r<;>simp[R.aF,R.cj,R.Y]
section
variable{d:I}{tk:Tk}{F:MS}
def Np{p:Prop}(h:p->iK d tk F r):iK d tk F (r.cj [p]):=by
 have pp:∀{α β:Type} {x:Fx} {J:aW} {s:ae} {r:3e3} {br:17e8} {Q:12e2} {EE:0e5},11 (r.cj [p])->p:=λP=>(26e9).1 p (D.dQ ..);cases tk with
 |x e=>
  show⟨λk sc E l x J s Q EE Y m R P=>?_,λk sc apq E t aU C l x J s Q EE Y m hz n R P=>?_⟩
  ·have P:10 ((r.cj [p]).aF _):=P;rw[t6]at P;exact(h (pp P)).1 k sc E l x J s Q EE Y m R 26e3
  ·have P:64 (((r.cj [p]).aF _).aF _) RF:=P;rw[t6,t6]at P;exact(h (pp P)).2 k sc apq E t aU C l x J s Q EE Y m hz n R 26e3
 |t e=>
  intro k sc E l x J s Q EE Y m R P;have P:64 ((r.cj [p]).aF _) RB:=P;rw[t6]at P;exact(h (pp P)) k sc E l x J s Q EE Y m R 26e3
 |s ss=>
  show⟨λk sc S l x J s Q EE Y m hz n R P=>?_,λk sc apq B t b e h1 h2 x J s Q EE Y m hz n R P=>?_⟩
  ·exact(h (pp P)).1 k sc S l x J s Q EE Y m hz n R 26e3
  ·exact(h (pp P)).2 k sc apq B t b e h1 h2 x J s Q EE Y m hz n R 26e3
 |ss b=>
  intro k sc B l x J s Q EE Y m hz n R P;exact(h (pp P)) k sc B l x J s Q EE Y m hz n R 26e3
 |aX f as=>
  show⟨λx J s u us Q EE Y R W apA P=>?_,λx J s Q EE P=>?_⟩
  ·have P:10 ((r.cj [p]).aF _):=P;rw[t6]at P;exact(h (pp P)).1 x J s u us Q EE Y R W apA 26e3
  ·have P:10 ((r.cj [p]).aF _):=P;rw[t6]at P;exact(h (pp P)).2 x J s Q EE 26e3
 |gk app it i b=>
  intro k sc apq B h1 h2 h3 x dC aC apD s Q EE o wr Y m hz n R apv a b c P;rw[ajv]at P;exact(h (pp P)) k sc apq B h1 h2 h3 x dC aC apD s Q EE o wr Y m hz n R apv a b c 26e3
 |mx e app apr it i j=>
  intro k ko apw g apq apE cs aU h1 h2 x dC aC h0 s Q o wr z Y m R apv a b c P;have A:p:=by
   cases r with
   |aT a F ob=>
    cases a with
    |f q=>cases q with
     |next=>exact P.1 p (D.dQ ..)
     |bk v=>exact P.ak
    |v v=>exact P.ak
    |b v=>exact P.ak
   |a8 a F ob=>exact P.ak
   |no w=>exact P.ak
  show(h A) k ko apw g apq apE cs aU h1 h2 x dC aC h0 s Q o wr z Y m R apv a b c ?_;clear h;cases r with
  |aT a F ob=>
   cases a with
   |f q=>cases q with
    |next=>exact⟨λq V=>P.1 q (54 V),P.2⟩
    |bk v=>exact P.ak
   |v v=>exact P.ak
   |b v=>exact P.ak
  |a8 a F ob=>exact P.ak
  |no w=>exact P.ak
def VR:iK d tk F 18e9:=by
 have:(R.no w:2e9)=R.cj [fT] 18e9:=H;rw[bb];exact Np λh=>h.ak
def aw:PP:=λd tk O T bI=>∀o1 o2,iK d tk 29e2 (bI.mZ o2 [])
def R.apG{α:Type}(o:2e1)(r:3e3):3e3:=match r with
 | .aT a F ob=> 20 a F.O F.T o ob
 | .a8 i F ob=> .a8 i ⟨F.O,F.T,o⟩ ob
 | .no w=> 18e9
def gQ(R:161 (62 o)):161 (62 o'):=⟨R.d8,R.cU,R.O,R.nd,R.gz,R.up,R.bq,R.bI,R.hM,R.b3,R.hw,R.gD,R.fy,R.dD,R.os,R.cW⟩
def ajx{α β:Type}{x:Fx}{J:aW}{s:ae}{r:3e3}{o:2e1}{br:17e8}{Q:12e2}{EE:0e5}(P:27e7):11 (r.apG o):=by
 cases r with
 |aT a F ob=>exact⟨P.1,λaC s' u R apv r=>P.2 aC s' u 26e4 apv r⟩
 |a8 i F ob=>exact⟨P.1,λaC s' u h R apv r=>P.2 aC s' u h 26e4 apv r⟩
 |no w=>exact P
def n6{α β:Type}{x:Fx}{J:aW}{s:ae}{r h:3e3}{o:2e1}{br:17e8}{Q:12e2}{EE:0e5}(P:27e7)(e:h=r.apG o):11 h:=e▸ajx P
def ajy{bI:fk}{O:1e0}{T:0e1}{o1 o2 apA o4:2e1}(h:iK d tk 29e2 (bI.mZ o2 [])):iK d tk (62 apA) (bI.mZ o4 []):=by
 cases tk with
 |x e=>
  show⟨λk sc E p x J s Q EE Y r R P=>h.1 k sc E p x J s Q EE Y r 26e4 (n6 (o:=o2) P ?_),λk sc apq E t aU apx p x J s Q EE Y r hz w R P=>h.2 k sc apq E t aU apx p x J s Q EE Y r hz w 26e4 (n6 (o:=o2) P ?_)⟩
  ·cases bI with
   |Y a ob m=>cases a<;>rfl
   |a8 i ob m=>rfl
  ·have apD:∃n,t= .n n:=oS (C:=λapp=>∃n,t= .n n) p λapp app h=>Rc h λn app=>⟨n,H⟩;obtain⟨n,H⟩:=apD;cases bI with
   |Y a ob m=>cases a<;>rfl
   |a8 i ob m=>rfl
 |t e=>
  intro k sc E p x J s Q EE Y r R P;show h k sc E p x J s Q EE Y r 26e4 (n6 (o:=o2) P ?_);cases bI with
  |Y a ob m=>cases a<;>rfl
  |a8 i ob m=>rfl
 |s ss=>
  show⟨λk sc S p x J s Q EE Y r hz w R P=>h.1 k sc S p x J s Q EE Y r hz w 26e4 (404 P),λk sc apq B t b e h1 h2 x J s Q EE Y r hz w R P=>h.2 k sc apq B t b e h1 h2 x J s Q EE Y r hz w 26e4 (404 P)⟩
 |ss b=>
  intro k sc B p x J s Q EE Y r hz w R P;exact h k sc B p x J s Q EE Y r hz w 26e4 (404 P)
 |aX f as=>
  show⟨λx J s u us Q EE Y R apE apw P=>h.1 x J s u us Q EE Y 26e4 apE apw (n6 (o:=o2) P ?_),λx J s Q EE P=>?_⟩
  ·cases bI with
   |Y a ob m=>cases a<;>rfl
   |a8 i ob m=>rfl
  ·have:=h.2 x J s Q EE (n6 (o:=o2) P (by
    cases bI with
    |Y a ob m=>cases a<;>rfl
    |a8 i ob m=>rfl))
   cases f with
   |aa v=>cases v<;>exact bb
   |Z i=>exact bb
   |_=>exact bb
 |gk z it i b=>
  intro k sc apq B h1 h2 h3 x dC aC apr s Q EE l wr Y r hz w R apv a b c P;exact h k sc apq B h1 h2 h3 x dC aC apr s Q EE l wr Y r hz w 26e4 apv a b c (404 P)
 |mx e z apz it i j=>
  intro k ko A W apq apu cs aU h1 h2 x dC aC h0 s Q l wr g Y r R apv a b c P;show h k ko A W apq apu cs aU h1 h2 x dC aC h0 s Q l wr g Y r 26e4 apv a b c ?_;clear h;cases bI with
  |Y a ob m=>
   cases a with
   |f q=>cases q with
    |next=>exact⟨P.1,λaC s' R apv=>P.2 aC s' 26e4 apv⟩
    |bk v=>exact P.ak
   |v v=>exact P.ak
   |b v=>exact P.ak
  |a8 a F ob=>exact P.ak
def VS(o:fk)(bG:2e1)(p:Prop):o.mZ bG [p]=(o.mZ bG []).cj [p]:=by cases o<;>rfl
universe e
def Nq:∀(l:1e0) (a o:aps),my (l++[a]) l.U o=l++[o]
 | [],_,_=>rfl
 |b::l,a,o=>bC (b:: ·) (Nq l a o)
def Nr(l:1e0)(a:aps)(T bG):MS.dL ⟨l++[a],T,bG⟩ l.U=11e3:=by
 unfold MS.dL;rw[28e3,I.jl];rfl
def VT:kd 789 31=true/\kd 789 184=true:=aq
def ajz(P:PP)(d:I)(O:1e0)(v w:V)(T:0e1):apy P 12 (d+1) (22 772 [18e6,v,w]) (160 O [] T)= 125 (.v 0e6) (160 O [(31,v),(184,w)] T):=by
 have h:qD (160 O [] [(164,18e6),(31,v),(184,w)]) 18e6 31 v= .Y () (160 O [(31,v)] [(164,18e6),(31,v),(184,w)]):=by
  unfold qD;dsimp only;rw[Nr];dsimp only[gN];rw[VT.1];unfold MS.cN;rw[Nq];rfl
 have s:qD (160 O [(31,v)] [(164,18e6),(31,v),(184,w)]) 18e6 184 w= .Y () (160 O [(31,v),(184,w)] [(164,18e6),(31,v),(184,w)]):=by
  unfold qD;dsimp only;rw[Nr];dsimp only[gN];rw[VT.2];unfold MS.cN;rw[Nq];rfl
 have e1:apy P 12 (d+1) (22 772 [18e6,v,w]) (160 O [] T)=mA (((279 (m3 (279 (qD (160 O [] [(164,18e6),(31,v),(184,w)]) 18e6 31 v)))).aF λr F=>rL r F (apy P 10 d (.ss [27 184 184]) F)).aF λr bR=>gA r 130 λv=> .Y v ⟨bR.O,T,bR.bG⟩):=cI;have e2:apy P 10 d (.ss [27 184 184]) (160 O [(31,v)] [(164,18e6),(31,v),(184,w)])=(279 (m3 (279 (qD (160 O [(31,v)] [(164,18e6),(31,v),(184,w)]) 18e6 184 w)))).aF λr F=>rL r F (apy P 9 d (.ss []) F):=cI;rw[s]at e2;have e3:apy P 10 d (.ss [27 184 184]) (160 O [(31,v)] [(164,18e6),(31,v),(184,w)])= 57 (160 O [(31,v),(184,w)] [(164,18e6),(31,v),(184,w)]) []:=e2;rw[e1,h];generalize hr:apy P 10 d (.ss [.bz (.a (.l 164) 184) (.l 184)]) ⟨O++[.bv 789 [(31,v)]],[(164,.Z O.U),(31,v),(184,w)],[]⟩=r at e3;have e4:∀(apu:A->MS->2e9),(279 (m3 (279 (R.Y () (160 O [(31,v)] [(164,18e6),(31,v),(184,w)]))))).aF apu=279 (apu 24e4 (160 O [(31,v)] [(164,18e6),(31,v),(184,w)])):=λx=>rfl;rw[e4];refine mA ((279 (apy P 10 d (.ss [27 184 184]) _)).aF _)=_;rw[hr,e3];rfl
def ajA(P:ay):ft.dM (λp=>(qG p.2.cX).ir||Ni P p.1 p.2)=true:=av
def ajB:ft.dM (λp=>(qG p.2.cX).Qz||341 1396)=true:=av
def VU{a:I}{fn:Fn}{F:MS}(h:lk ft a=G fn):kW F 26e0:=λP=>243 (ai8 P) (iX h)
def VV{a:I}{q:al×D (I×I)}{F:MS}(h:nK a=G q):kW F 26e0:=λP=>243 (ai9 P) (iX h)
section
variable{ih:Ih}{d:I}{F:MS}
def VW(s:ay)(h:lk ft a=G fn)(e:qG fn.cX=L)(x:∀P,lG P a=G fd)(b:fd.cX= .mU B):fe 60 fd.bt (.b B fn.cX)=true:=by
 have h1:=243 (ajA s) (iX h);dsimp only at h1;rw[e]at h1;have h1:Ni s a fn=true:=h1;unfold Ni at h1;rw[x s]at h1;dsimp only at h1;rw[b]at h1;exact h1
def ajC(apz:14e3)(h:lk ft a=G fn)(r:qG fn.cX=L)(e:(as++39e0).U=fn.ps.U):
  JC (d+1) 26e0 as F (B5 F (ih (.ss fn.cX) ⟨F.O,fn.ps.fx (as++39e0),F.bG⟩)):=by
 intro x J s u us Q EE Y R p b P;show jB (CS x.w.bV h) λfd B k m apv=>?_;exact afy apv e (apz.b (VW x.w.bV h r k m) _) x J s u us Q EE Y R p b P
def yX(d:I):Prop:=∀v u bR,JC d (5 789) [v,29e6] bR (.Y (.Z bR.O.U) ⟨bR.O++[177 (31,v) (184,29e6)],bR.T,bR.bG⟩)
def ajD:uK (eh 133)=[.pP (G (.jT (256 101 11 19) [yS,nP] [] (lq 11 96))) (lq 4 96)]:=av
def ajE:qG ve.cX=G (789,hX):=av
def ajF(apz:14e3)(i:yX d)(b:lk ft a=G fn)(r:qG fn.cX=G q):JC (d+1) 26e0 as F (Kl ih q.2 q.1 as F):=by
 intro x J s u us Q EE Y R m p P;have h:=243 ajB (iX b);dsimp only at h;rw[r]at h;cases I.f0 h;have:lk ft 1396=G ve:=av;cases b.bi.aV bb;cases r.bi.aV ajE;show jB (CS x.w.bV bb) λfd B v j apv=>?_;have w:lG x.w.bV 1396=G (zR (eh 133) wX (.L) (.ag gh 2135) (.N 1395)):=av;cases(v x.w.bV).bi.aV w;have e:uK (eh 133)=B:=by cases j
 rw[ajD]at e;subst e;cases as with
 |aR=>exact P.ak
 |aQ k as=>cases as with
  |aR=>exact P.ak
  |aQ n as=>cases as with
   |aQ=>exact P.ak
   |aR=>exact aiv apv H av ⟨av,apz.x (k:=50) av⟩ av av av (VV (q:=(false,[(166,772),(242,779),(148,786)])) av) av av i x J s u us Q EE Y R m p P
def ajG(apz:14e3)(n:dp=true->yX d)(p:lk ft a=G fn):JC (d+1) 26e0 as F (A2 ih dp fn as F):=by
 intro x J s u us Q EE Y R r b P;show fV P λk h=>?_;cases e:qG fn.cX with
 |L=>
  rw[e]at h;exact ajC apz p e (I.f0 k) x J s u us Q EE Y R r b h
 |G q=>
  rw[e]at h;exact fV h λhd m=>ajF apz (n hd) p e x J s u us Q EE Y R r b m
def ajH(apz:14e3)(p:nK a=G q):JC (d+1) 26e0 as F (A3 ih a q as F):=by
 obtain⟨b,t⟩:=q;intro x J s u us Q EE Y R m k P;show kT P (λe h=>?_) λe h=>eE h λi v j=>?_
 ·cases e;revert h;cases k with
  |aR=>exact λP=>P.ak
  |aQ r c=>cases c with
   |aQ=>exact λP=>P.ak
   |aR=>
    clear P;intro h;have n:lk ft 35=G Qk:=av;show jB (CS x.w.bV n) λfd B w l apv=>?_;exact ahU (VQ a (by unfold xD;rw[p];rfl)) apv H (aju w l x.w.bV) x J s u _ Q EE Y R m (266 r) h
 ·cases e;clear h;exact Te (VN p v) (f:=λo F=>rR ih (5 i) (o::as) F) (λo aS=>(apz (22 i (o::as)) aS).1) x J s u us Q EE Y R m k j
def VX{C:154 V}{Q:0e5}{EE:0e5}(P:10 (vn ih dp f as F))
  (h1:∀a fn,lk ft a=G fn->10 (A2 ih dp fn as F)->C 26e0) (h2:∀a q,nK a=G q->10 (A3 ih a q as F)->C 26e0)
  (h3:∀i k n v,18e7=G (.cW k (.Z n))->as=[v]->10 (vm n k v F)->C 15e9):C f:=by
 cases f with
 |aa u=>
  have P:10 (A0 29e6 134 λa=>(Kh a).ak (gN (nK a) 131 λq=>A3 ih a q as F) λfn=>A2 ih dp fn as F):=P;show RQ P λa e h=>?_;cases e;cases b:Kh a with
  |G fn=>rw[b]at h;exact h1 a fn b h
  |L=>rw[b]at h;exact eE h λq r m=>h2 a q r m
 |Z i=>
  clear h2 h1;have P:10 (gN 18e7 133 λo=>QA o as F):=P;exact eE P λo p h=>by
   cases o with
   |cW k w=>cases w with
    |Z n=>cases as with
     |aR=>exact h.ak
     |aQ v as=>cases as with
      |aR=>exact h3 i k n v p H h
      |aQ=>exact h.ak
    |_=>exact h.ak
   |_=>exact h.ak
 |_=>exact P.ak
def ajI(apz:14e3)(w:dp=true->yX d):JC (d+1) f as F (vn ih dp f as F)/\∀(x:Fx) (J:aW) (s:ae) (Q:0e5) (EE:0e5),10 (vn ih dp f as F)->kW F f:=
 ⟨λx J s u us Q EE Y R b p P=>VX (C:=λf=>17 f u->_) P (λa fn h P b=>ajG apz w h x J s u us Q EE Y R b p P) (λa q h P b=>ajH apz h x J s u us Q EE Y R b p P) (λi k n v h e m b=>by subst e;exact aiF h x J s u us Q EE Y R b p m) b,
 λx J s Q EE P=>VX P (λa fn h r=>VU h) (λa q h r=>VV h) λi k n v h r r=>⟨k,_,h⟩⟩
def ajJ(apz:14e3)(h:dp=true->yX d):iK (d+1) (.aX f as) F (mA (vn ih dp f as F)):=by
 refine JC (d+1) f as F (q2 (mA _))/\∀(x:Fx) (J:aW) (s:ae) (Q:0e5) (EE:0e5),10 (q2 (mA (vn ih dp f as F)))->kW F f;rw[ajw];exact ajI apz h
def ajK(apz:14e3)(fz:al)(x:Fx):qX ih fz d x:=
 ahA (λf as F=>(apz (.aX f as) F).1) (λf as F J s Q EE h P=>(apz (.aX f as) F).2 x J s Q EE P)
universe e
def ajL(apz:fQ ih (e+1))(hr:∀O v w T,ih (22 772 [18e6,v,w]) (160 O [] T)= 125 (.v 0e6) (160 O [(31,v),(184,w)] T)):yX (e+2):=by
 intro v u bR x J s h us Q EE Y R a r P;have b:nK 789=G (false,[(166,772),(242,779),(148,786)]):=av;show Te (VN b (i:=772) cI) (f:=λo F=>rR ih (5 772) (o::[v,29e6]) F) (λo aS=>(apz (22 772 (o::[v,29e6])) aS).1) (F:=⟨bR.O,bR.T,[]⟩) x J s h us Q EE Y 26e4 a r ?_;refine 10 (Internal.R.cj [] ((q2 (ih (22 772 [.Z bR.O.U,v,29e6]) (160 bR.O [] bR.T))).aF _));rw[yE,hr];exact n6 (o:=[]) P H
def ajM{β:Type}{C:38e4}{l:2e1}{d:β}{f g:(Tk->al)->(Tk->1e0->0e1->fk)->2e1->β}(hd:C d)(s:∀q r o,C (f q r o))(h:∀q r o,C (g q r o)):C (QE l d f g):=yg hd λq o=>by
 cases q with
 |ed q r=>exact s q r o
 |cu q r=>exact h q r o
 |_=>exact hd
def hU:∀d n,fQ (apy aw n d) d:=by
 intro d;induction d using I.strongRecOn with
 |ind d k=>
  intro n;induction n with
  |i5=>exact λtk F=>VR
  |hI n a=>
   have b:∀tk F,iK d tk F (ou (apy aw n d) (d.cE L λd=>G (apy aw n d)) (I.g6 3 d) tk F):=by
    intro tk F;by_cases h:∃f as,tk= .aX f as
    ·(show qh h λf as l=>?_;try clear h;subst l);cases d with
     |i5=>exact VR
     |hI d=>
      show ajJ (k d 40e5 n) λhd=>?_;have h2:2<=d:=I.le_of_succ_le_succ (I.cz hd);clear hd;(show oE (⟨d-2,(I.ag0 h2).bi⟩:∃e,d=e+2) λe i=>?_;subst i);intro v u bR x J s m us Q EE Y R j w P;exact ajL (k (e+1) bN 12) (ajz aw e) v u bR x J s m us Q EE Y R j w P
    ·exact ai3 a aji VQ (λfz x=>ajK a fz x) (λf as e=>h ⟨f,as,e⟩) F
   clear a;intro tk F;show ajM (C:=iK d tk F) (b tk F) (λq r o=>?_) λq r o=>?_
   ·cases q tk with
    |true=>exact Eq.bn (bC (iK d tk F) (VS ..)) (Np λp=>p _ _)
    |false=>exact b tk F
   ·cases q tk with
    |true=>exact Eq.bn (bC (iK d tk F) (VS ..)) (Np λp=>p _ _ _ _)
    |false=>exact b tk F
def aps.az.fv(l:0e0)(t:al)(m:0e0)(u:al):(aps.az l t=aps.az m u)=(l=m/\t=u):=qV (399 ⟨a,b⟩)
def aps.bv.fv(C:aI)(d:0e1)(s:aI)(x:0e1):(aps.bv C d=aps.bv s x)=(C=s/\d=x):=qV (399 ⟨a,b⟩)
def aps.a8.fv(C:aI)(d:0e1)(s:aI)(x:0e1):(aps.a8 C d=aps.a8 s x)=(C=s/\d=x):=qV (399 ⟨a,b⟩)
def aps.cW.fv(k i x s:V):(aps.cW k i=aps.cW x s)=(k=x/\i=s):=qV (399 ⟨a,b⟩)
def aps.eG.fv(l m:4e9):(aps.eG l=aps.eG m)=(l=m):=55e1
def aps.au.fv(l m:0e0):(aps.au l=aps.au m)=(l=m):=55e1
def aps.bw.fv(l m:5e6):(aps.bw l=aps.bw m)=(l=m):=55e1
mutual
def cK(f:I->I):V->V
 | .X l=> .X (bQ f l)
 | .ad l t=> .ad (bQ f l) t
 | .Z i=> .Z (f i)
 | .aa v=> .aa v
 | .bp b t=> .bp b t
 | .y i t=> .y i t
 | .ag s=> .ag s
 | .ch b=> .ch b
 | .ei b=> .ei b
def bQ(f:I->I):D V->D V
 | []=>[]
 |v::l=>cK f v::bQ f l
end
def f9(f:I->I):aps->aps
 | .az l t=> .az (bQ f l) t
 | .au l=> .au (bQ f l)
 | .bw l=> .bw (321 (p.1,73 p.2))
 | .bv C d=> 113 (d.aj λp=>(p.1,73 p.2))
 | .eG b=> .eG b
 | .cW k i=> .cW (73 k) (73 i)
 | .a8 C d=> .a8 C (d.aj λp=>(p.1,73 p.2))
def lH(f:I->I):∀l,bQ f l=l.aj (cK f)
 | []=>rfl
 |v::l=>bC (15e3:: ·) (lH f l)
def CT(f:I->I)(l:0e0):(bQ f l).U=l.U:=by rw[lH,D.fs]
def ajN(f:I->I)(l:0e0):(bQ f l).et=bQ f l.et:=by rw[lH,lH,D.Ml]
section
variable{J kX:aW}{h:ai}{f:I->I}
set_option tactic.hygienic true in
theorem sE(hm:∀(i:I) p,J[f i]? =5e1->kX[i]? =5e1)(m:∀a,69 kX->14e2):∀{u:af},146 15e3->RV kX h v u:=by
 induction v using V.rp (KQ:=λl=>∀us,cx J h (bQ f l) us->cx kX h l us)with
 |aa v=>exact λr=>tI.cE r 14e9
 |bp b t=>exact λr=>KJ.cE r (.bp ..)
 |y i t=>exact λr=>vy.cE r λe=> .y ..
 |ag s=>exact λr=>Ri.cE r λe=> .ag ..
 |ch b=>exact λr=>xV.cE r λe x=> .ch _ _ x
 |X l ih=>exact λr=>KM.cE r λa aP o x k=> .X _ _ _ o (CT f l▸x) (ih _ k)
 |ad l t ih=>exact λr=>Bp.cE r λa aP w no x k=> .ad _ _ _ _ w (λq=>no (m a q)) (CT f l▸x) (ih _ k)
 |ei b=>exact λr=>Rj.cE r λa j no x=> .ei _ _ j (λq=>no (m a q)) x
 |Z i=>exact λr=>mG.cE r λp d=> .Z _ p (hm _ _ d)
 |aR=>rename_i r;exact cJ.KH r .aR
 |aQ v l n c=>rename_i r;exact cJ.KI r λe e a b=> .aQ (n a) (c _ b)
def cJ.Nt{α s β:Type}{p:17e7}{q:s->β->Prop}{g:s->α}(h:∀a b,p (g a) b->q a b):∀{l:D s} {m:D β},cJ p (l.aj g) m->cJ q l m:=by
 intro l;induction l with
 |aR=>exact λr=>r.KH .aR
 |aQ a l ih=>exact λr=>r.KI λe e x app=> .aQ (h _ _ x) (ih app)
def VY(hm:∀(i:I) p,J[f i]? =5e1->kX[i]? =5e1)(s:∀a,69 kX->14e2)(r:83 (bQ f l)):cx kX h l us:=cJ.Nt (λx x=>sE hm s) (lH f l▸r)
def VZ{apv:Type}{g:38e7}(hm:∀(i:I) p,J[f i]? =5e1->kX[i]? =5e1)(s:∀a,69 kX->14e2){l:5e6}{es:31e5}:RK g J h (321 (p.1,73 p.2)) es->RK g kX h l es:=cJ.Nt λx x r=>⟨r.1,sE hm s r.2⟩
def V0(hm:∀(i:I) p,J[f i]? =5e1->kX[i]? =5e1)(s:∀a,69 kX->14e2):ly J h (321 (p.1,73 p.2)) es->ly kX h l es:=cJ.Nt λx x r=>⟨r.1,sE hm s r.2⟩
def ajO{p:9e3}(hm:∀(i:I) p,J[f i]? =5e1->kX[i]? =5e1)(s:∀a,69 kX->14e2)(r:RO w J h p (f9 f o)):RO w kX h p o:=by
 cases o with
 |az l t=>
  (show gq r λa b aP c d=>?_;try clear r);exact⟨a,by rwa[CT]at b,aP,c,VY hm s d⟩
 |au l=>
  (show gq r λa b aP c d=>?_;try clear r);rw[ajN]at d;exact⟨a,by rwa[CT]at b,aP,c,VY hm s d⟩
 |bw l=>
  (show gq r λa b ob c d=>?_;try clear r);show⟨a,by rwa[D.fs]at b,ob,c,?_⟩;rcases d with⟨bK,d,e⟩|⟨bK,d,e⟩
  ·exact .a4 ⟨bK,d,VZ hm s e⟩
  ·exact .aE ⟨bK,d,VZ hm s e⟩
 |bv C dd=>
  obtain(⟨a,x,es,n,sl,b,c,e,g⟩):=r;exact⟨by rwa[D.fs]at a,x,es,n,sl,b,c,e,V0 hm s g⟩
 |eG b=>exact r
 |cW k i=>
  obtain(⟨fd,c1,c2,u1,u2,a,b,c,d,e,g,i⟩):=r;exact⟨fd,c1,c2,u1,u2,a,b,c,d,e,sE hm s g,sE hm s i⟩
 |a8 C dd=>
  obtain(⟨a,x,aD,es,n,vs,sl,b,c,e,g,i,j⟩):=r;exact⟨by rwa[D.fs]at a,x,aD,es,n,vs,sl,b,c,e,V0 hm s g,i,j⟩
universe e
mutual
def dG:V->V
 | .X l=> .X (kq l)
 | .ad l _=> .ad (kq l) true
 | .Z i=> .Z i
 | .aa v=> .aa v
 | .bp b _=> .bp b true
 | .y i _=> .y i true
 | .ag s=> .ag s
 | .ch b=> .ch b
 | .ei b=> .ei b
def kq:D V->D V
 | []=>[]
 |v::l=>dG v::kq l
end
def yY:∀l,kq l=l.aj dG
 | []=>rfl
 |v::l=>bC (dG v:: ·) (yY l)
def v8(l:0e0):(kq l).U=l.U:=by rw[yY,D.fs]
def eJ:aps->aps
 | .az l _=> 37 (kq l)
 | .au l=> 37 (kq l.et)
 | .bw l=> .bw (321 (dG p.1,dG p.2))
 | .bv C d=> 113 (d.aj λp=>(p.1,dG p.2))
 | .eG b=> .eG b
 | .cW k i=> .cW (dG k) (dG i)
 | .a8 C d=> .a8 C (d.aj λp=>(p.1,dG p.2))
section
variable{J:aW}{h:ai}
def ajP(r:22e1):146 (dG v):=by
 show RV.rp (motive_1:=λv u e=>146 (dG v)) (KQ:=λl us e=>83 (kq l)) ?_ ?_ ?_ ?_ ?_ ?_ ?_ ?_ ?_ ?_ ?_ r
 ·exact λv=> .aa v
 ·exact λb t=> .bp ..
 ·exact λi t tk=> .y ..
 ·exact λs tk=> .ag ..
 ·exact λb tk x=> .ch _ _ x
 ·exact λl a aP n x e ih=> .X _ _ _ n (by rw[v8];exact x) ih
 ·exact λl t a aP k no x e ih=> .ad _ _ _ _ k no (by rw[v8];exact x) ih
 ·exact λb a m no x=> .ei _ _ m no x
 ·exact λi p w=> .Z _ _ w
 ·exact .aR
 ·exact λe e a b=> .aQ a b
set_option tactic.hygienic true in
theorem ajQ:∀{u:af},146 (dG v)->22e1:=by
 induction v using V.rp (KQ:=λl=>∀us,cx J h (kq l) us->cx J h l us)with
 |aa v=>exact λr=>tI.cE r 14e9
 |bp b t=>exact λr=>KJ.cE r (.bp ..)
 |y i t=>exact λr=>vy.cE r λe=> .y ..
 |ag s=>exact λr=>Ri.cE r λe=> .ag ..
 |ch b=>exact λr=>xV.cE r λe x=> .ch _ _ x
 |X l ih=>exact λr=>KM.cE r λa aP q x k=> .X _ _ _ q (v8 l▸x) (ih _ k)
 |ad l t ih=>exact λr=>Bp.cE r λa aP n no x k=> .ad _ _ _ _ n no (v8 l▸x) (ih _ k)
 |ei b=>exact λr=>Rj.cE r λa w no x=> .ei _ _ w no x
 |Z i=>exact λr=>mG.cE r λp o=> .Z _ p o
 |aR=>rename_i r;exact cJ.KH r .aR
 |aQ v l m j=>rename_i r;exact cJ.KI r λe e a b=> .aQ (m a) (j _ b)
def o8(e:dG v=dG v')(r:22e1):146 v':=ajQ (e▸ajP r)
def cJ.fF{α β γ:Type}{p:17e7}{g:α->γ}(h:∀a s b,g a=g s->p a b->p s b){l:8e4}{m:D β}(r:cJ p l m):∀{l':8e4},l.aj g=l'.aj g->cJ p l' m:=by
 induction r with
 |aR=>exact λ{l'} e=>match l' with| []=> .aR
 |aQ a _ ih=>exact λ{l'} e=>match l' with|_::_=> .aQ (h _ _ _ (D.aQ.cF e).1 a) (ih (D.aQ.cF e).2)
def v9{l s:0e0}{us:2e5}(e:kq l=kq s)(r:83 l):83 s:=cJ.fF (p:=RV J h) (g:=dG) (λx x x e r=>o8 e r) r ((yY l).bi.aV (e.aV (yY s)))
def ajR(a:K)(k s:V)(e:dG k=dG s):tJ a k->tJ a s:=by
 rintro⟨t,H⟩;cases s with
 |y i t=>cases e;exact⟨t,H⟩
 |_=>exact nomatch e
def ajS(a:am)(k s:V)(e:dG k=dG s):tK a k->tK a s:=by
 rintro H;cases s with
 |ag=>cases e;rfl
 |_=>exact nomatch e
def V1{apv:Type}{f:38e7}(m:∀a k b,dG k=dG b->f a k->f a b){l s:5e6}{es:31e5}(e:(321 (dG p.1,dG p.2))=(s.aj λp=>(dG p.1,dG p.2)))(r:RK f J h l es):RK f J h s es:=
 r.fF (λx x x e r=>⟨m _ _ _ (bC (·.1) e) r.1,o8 (bC (·.2) e) r.2⟩) e
def V2{l s:0e1}{es:26e2}(e:(321 (p.1,dG p.2))=(s.aj λp=>(p.1,dG p.2)))(r:ly J h l es):ly J h s es:=
 r.fF (λa b x e r=>⟨(bC (·.1) e:a.1=b.1)▸r.1,o8 (bC (·.2) e) r.2⟩) e
def Nu{α β:Type}{f:α->β}{l s:8e4}(e:l.aj f=s.aj f):l.U=s.U:=by
 have:=bC D.U e;simpa using bb
def V3:aps->37e1
 | .az l _=>G l
 | .au l=>G l.et
 |_=>L
def V4(e:V3 o=G l):RO w J h p o ↔ (p.2=[]/\l.U<=16777216/\∃aP,h.ka p.1 32e3/\cx J h l aP):=by
 cases o with
 |az=>
  cases ar.G.cF e;exact Iff.H
 |au=>
  cases ar.G.cF e;refine(_/\_/\_) ↔ _;rw[D.lA]
 |_=>exact 18e0
def V5(e:eJ o= 37 l):∃l',V3 o=G l'/\kq l'=l:=by
 cases o with
 |az=>exact⟨_,H,(Eq.mp (aps.az.fv ..) e).1⟩
 |au=>exact⟨_,H,(Eq.mp (aps.az.fv ..) e).1⟩
 |_=>cases e
def V6(e:eJ o= 37 l)(i:eJ o'= 37 l)(r:RO w J h p o):RO w J h p o':=by
 show aN (V5 e) λa k x=>?_;show aN (V5 i) λb u s=>?_;show gq ((V4 k).mp r) λq m aP v j=>?_;have n:a.U=b.U:=by
  have:=bC D.U (x.aV s.bi);rwa[v8,v8]at bb
 exact(V4 u).bn ⟨q,n▸m,aP,v,v9 (x.aV s.bi) j⟩
def V7{p:9e3}(e:eJ o=eJ o')(r:RO w J h p o):RO w J h p o':=by
 cases o with
 |az l t=>exact V6 H (e.bi.aV H) r
 |au l=>exact V6 H (e.bi.aV H) r
 |bw l=>
  cases o' with
  |bw l'=>
   have e:=Eq.mp (aps.bw.fv ..) e;(show gq r λa b ob c d=>?_;try clear r);show⟨a,Nu e▸b,ob,c,?_⟩;rcases d with⟨bK,d,q⟩|⟨bK,d,q⟩
   ·exact .a4 ⟨bK,d,V1 (f:=tJ) ajR e q⟩
   ·exact .aE ⟨bK,d,V1 (f:=tK) ajS e q⟩
  |_=>cases e
 |bv C dd=>
  cases o' with
  |bv v m=>
   (show oA (Eq.mp (aps.bv.fv ..) e) λs u=>?_;subst s);obtain(⟨a,x,es,n,sl,b,c,q,g⟩):=r;exact⟨Nu u▸a,x,es,n,sl,b,c,q,V2 u g⟩
  |_=>cases e
 |eG b=>
  cases o' with
  |eG b'=>exact Eq.mp (aps.eG.fv ..) e▸r
  |_=>cases e
 |cW k i=>
  cases o' with
  |cW app z=>
   have e:=Eq.mp (aps.cW.fv ..) e;obtain(⟨fd,c1,c2,u1,u2,a,b,c,d,q,g,i⟩):=r;exact⟨fd,c1,c2,u1,u2,a,b,c,d,q,o8 e.1 g,o8 e.2 i⟩
  |_=>cases e
 |a8 C dd=>
  cases o' with
  |a8 v m=>
   (show oA (Eq.mp (aps.a8.fv ..) e) λs u=>?_;subst s);obtain(⟨a,x,aD,es,n,vs,sl,b,c,q,g,i,j⟩):=r;exact⟨Nu u▸a,x,aD,es,n,vs,sl,b,c,q,V2 u g,i,j⟩
  |_=>cases e
universe e
structure kr(f:I->I)(O eW:D aps)(T hT:D (I×V)):Prop where
 Z:∀(i:I) o,eW[i]? =G o->∃o2,O[f i]? =G o2/\eJ o2=eJ (f9 f o)
 bI:∀i,eW.U<=i->O.U<=f i
 cF:∀i j,i<eW.U->j<eW.U->f i=f j->i=j
 T:∀k v,lk hT k=G v->∃v2,lk T k=G v2/\dG v2=dG (cK f v)
def mO(f:I->I)(m:I)(J:aW):aW:=(D.dS m).aj λi=>(J[f i]?).ge (0,[])
section
variable{x:Fx}{J:aW}{O eW:D aps}{T hT:D (I×V)}{bG:D cq}{s:ae}{f:I->I}
def ajT(h:i<m):(mO f m J)[i]? =G ((J[f i]?).ge (0,[])):=by
 unfold mO;rw[D.n4,D.uu h];rfl
def CU:(mO f m J).U=m:=by unfold mO;simp
def kr.lt(r:kr f O eW T hT)(h:i<eW.U):f i<O.U:=
 let⟨_,e,_⟩:=r.Z i _ (D.ie h)
 (D.gP.mp e).1
def kr.dL(r:kr f O eW T hT)(s:J.U=O.U)(h:i<eW.U):(mO f eW.U J)[i]? =J[f i]? :=by
 rw[ajT h,D.ie (s▸r.lt h)];rfl
def kr.fwd(r:kr f O eW T hT)(s:J.U=O.U)(i:I)(p:9e3)(e:J[f i]? =5e1):(mO f eW.U J)[i]? =5e1:=by
 by_cases h:i<eW.U
 ·rw[r.dL s h];exact e
 ·have:=(118 e);have:=r.bI i (I.dv.mp h);lia
def kr.bwd(r:kr f O eW T hT)(s:J.U=O.U)(e:(mO f eW.U J)[i]? =5e1):J[f i]? =5e1:=by
 have h:=(118 e);rw[CU]at h;rw[<-r.dL s h];exact e
def kr.d3(r:kr f O eW T hT)(b:J.U=O.U)(a:aI)(h:69 (mO f eW.U J)):14e2:=by
 (show aN h λp e x=>?_;try clear h);show oE (D.V8 e) λi s=>?_;exact⟨p,D.jc (r.bwd b s),x⟩
def aK.o9(R:161 (62 bG))(r:kr f O eW T hT):aK x (mO f eW.U J) ⟨eW,hT,bG⟩ s:=by
 have l:J.U=O.U:=R.cU;have z:=r.fwd l;have n:=r.d3 l;show⟨R.d8,CU,λi o p e1 e2=>?_,?_,λa h=>R.gz a (n a h),λa h=>R.up a (n a h),⟨?_,λk v a b=>?_⟩,λa w h=>R.bI a w (n a h),R.hM,R.b3,R.hw,R.gD,λa w=>⟨(122 w).1,λh=>(122 w).2 (n a h)⟩,R.dD,R.os,R.cW⟩
 ·show aN (r.Z i o e1) λo2 g1 g2=>?_;exact ajO z n (V7 g2 (42 _ g1 (r.bwd l e2)))
 ·rw[D.dX,D.yh];show⟨λp apA=>?_,?_⟩
  ·show oE (D.V8 apA) λi d=>?_;have:=R.nd;rw[D.dX,D.yh]at bb;exact bb.1 p (D.jc (r.bwd l d))
  ·rw[D.Si];intro i j d app apw a w b apq e;subst e;have V:=r.bwd l (D.ie d);have W:=r.bwd l (D.ie app);have:=R.si V W w apq;rw[CU]at d app;have:=r.cF i j d app bb;lia
 ·obtain⟨m,P,S⟩:=R.bq.iP;exact⟨m,P,λk v a b=>(by show aN (r.T k v b) λv2 g t=>?_;exact(by show aN (S k _ a g) λu e q=>?_;exact⟨u,e,sE z n (o8 t q)⟩))⟩
 ·show aN (r.T k v b) λv2 g t=>?_;obtain(⟨c,u,e1,e2,e3,e4⟩):=201 k _ g;exact⟨c,u,e1,e2,sE z n (o8 t e3),λh=>e4 (n c h)⟩
def kr.split(r:kr f O eW T hT)(k:(l0++aC).U=O.U)(n:l0.U=apC)(m:∀i,i<apC->f i=i)(v:apC<=eW.U):
  ∃w,mO f eW.U (l0++aC)=l0++w/\∀a,69 w->69 aC:=by
 show⟨(mO f eW.U (l0++aC)).fi apC,?_,λa h=>?_⟩
 ·have:(mO f eW.U (l0++aC)).fI apC=l0:=by
   show D.V9 λi=>?_;by_cases s:i<apC
   ·rw[D.Nv s,r.dL k (I.mH s v),m i s,D.kR (n▸s)]
   ·rw[D.q4 (by rw[D.qQ];lia),D.q4 bN]
  have e:=D.Jx apC (mO f eW.U (l0++aC));rw[bb]at e;exact e.bi
 ·(show aN h λp l u=>?_;try clear h);show oE (D.V8 l) λj x=>?_;rw[D.Wa]at x;have e:=r.bwd k x;have b:=(118 x);rw[CU]at b;have:apC<=f (apC+j):=by
   show I.dv.mp λq=>?_;have h1:=m _ q;have:=r.cF _ _ (I.mH q v) b h1;lia
  rw[D.lD (by exact yr n bb)]at e;exact⟨p,D.jc e,u⟩
def Kp.less(apv:56 l0 x h h')(s:∀a,69 ajU->69 aC):Kp l0 ajU x h h':=⟨apv.bS,apv.ju,apv.iW,apv.g7,λa q=>apv.fm a (s a q)⟩
universe e
section
variable{α β:Type}
def CV(x:Fx)(J:aW)(h0:ai)(r:3e3)(br:17e8)(Q:12e2)(EE:0e5):Prop:=match r with
 | .aT a F _=>∀aC s' u,207 F->56 J x h0 s'.M->br (J++aC) s'.M a u->Q u s'
 | .a8 i F _=>∀aC s' u,x5 J F i->207 (4 F.O F.bG)->56 J x h0 s'.M->RV (J++aC) s'.M 15e9 u->EE u s'
 | .no _=>fT
def aH.toB{br:17e8}{Q:12e2}{EE:0e5}(P:27e7):CV x J s.M r br Q EE:=by
 cases r with
 |aT a F ob=>exact P.2
 |a8 i F ob=>exact P.2
 |no w=>exact P
universe e
structure gb(apC:I)(O eW:D aps)(T hT:D (I×V))(f:I->I):Prop where
 o9:kr f O eW T hT
 fB:∀i,i<apC->f i=i
 le:apC<=eW.U
def gb.sD{apC:I}{O eW:1e0}{T hT:0e1}{f:I->I}(r:gb apC O eW T hT f){bG:2e1}(k:l0.U=apC)(R:167 l0 aC (62 bG) s)(apv:56 l0 x h0 s.M):
  ∃a,167 l0 a ⟨eW,hT,bG⟩ s/\Kp l0 a x h0 s.M/\∀v u,RV (l0++aC) s.M 15e3 u->RV (l0++a) s.M v u:=by
 show aN (r.o9.split R.cU k r.fB r.le) λa e p=>?_;have b:=R.o9 r.o9;rw[e]at b;show⟨a,b,apv.less p,λv u q=>?_⟩;have:=sE (f:=f) (J:=l0++aC) (kX:=mO f eW.U (l0++aC)) (h:=s.M) (r.o9.fwd R.cU) (r.o9.d3 R.cU) q;rwa[e]at bb
def ajV(d:I)(h:cD)(apq:PySem.a0)(B:11e1)(apC:I)(F:MS)(bI:2e9):Prop:=
 ∀(x:Fx) (J aC:aW) (h0:ai) (s:ae) (Q:34e6) (EE:0e5),3e6->x.ab.bt=h->x.fz=false->pW 3e0 x.A x.ab EE->J.U=apC->294 F s->56 J x h0 s.M->CV x J h0 bI RF Q EE->
  e8 3e0 x.A (.DM apq B [] x.ab) (367 f (zD 3e0 x.A x.ab EE e s')) s
def n7(d:I)(t:apw)(b:15e5)(apC:I)(F:MS)(bI:2e9):Prop:=∀k sc apq B,fe k sc (.t apq t)=true->fe k sc (.b B b)=true->ajV d sc apq B apC F bI
section
variable{d apC:I}{t:apw}{b:D Internal.S}{F aS du:MS}{fN:D aps}{gc:D (I×V)}{Wb:D cq}{f:I->I}{bI:R A}{q5 CW:D Prop}
def Kp.oP(a:Kp l0 m1 x h0 h1)(b:Kp (l0++m1) m2 x h1 h2):Kp l0 (m1++m2) x h0 h2:=a.aV b
def Nw{c:al}{k:I}{e:cD}{apq:PySem.a0}(q:iK d (.t t) F (.aT (.b c) aS q5))(a:∀p∈q5,p)(v:fe k e (.t apq t)=true){x:Fx}{J:aW}{s:ae}(Y:3e6)(n:x.ab.bt=e)(m:0e9){E:0e5}:
  aM 3e0 x.A (sV apq x.ab (233 apq)) (λr s1=>r=c/\∃h,167 J h aS s1/\71 h s1.M) E s:=by
 show q k e apq v x J s _ _ Y n m ?_;refine aH x J s (.aT c aS (q5++[])) RB _ _;rw[D.dZ];exact⟨a,λh s1 u w b r1=>⟨Eq.bi r1,h,w,b⟩⟩
def ajW(S:iK d (.t t) F (.aT 6e7 aS q5))(z:∀p∈q5,p)(o:iK d 12e5 aS (57 du CW))(oB:∀p∈CW,p)(i:gb apC du.O fN du.T gc f)(hL:∀Wb,n7 d t b apC ⟨fN,gc,Wb⟩ bI):n7 d t b apC F bI:=by
 intro k sc apq B h1 h2 x J aC h0 s Q EE Y m hz V v app apv P;show zJ ?_;show eX (Nw (E:=λh h=>fT) S z h1 Y m app) ?_ 50e6;rintro c s1 ⟨H,r,l,R⟩;show eX (o k sc B h2 x (J++aC++r) s1 (λfl e=>fl= .bA/\∃m2,aK x (J++aC++r++m2) du e/\Kp (J++aC++r) m2 x s1.M e.M) (λh h=>fT) Y m hz pW.never l ⟨oB,λm2 e u a n r2=>?_⟩) ?_ 50e6
 ·cases r2;exact⟨H,m2,a,n⟩
 ·rintro fl e ⟨H,m2,a,n⟩;have KK:=apv.oP (R.oP n);rw[D.eP,D.eP]at a;obtain⟨fE,gR,g⟩:=du;show dU (i.sD v a KK) λapA w j h=>?_;exact hL g k sc apq B h1 h2 x J apA h0 e Q EE Y m hz V v w j P
def ajX(v:iK d (.t t) F (.aT 1e9 aS q5))(a:∀p∈q5,p):n7 d t b apC F (57 aS []):=by
 intro k sc apq B h1 h2 x J aC h0 s Q EE Y n hz w u m apv P;show zJ ?_;show eX (Nw (E:=λh h=>fT) v a h1 Y n m) ?_ 50e6;rintro c s1 ⟨H,i,e,r⟩;rw[D.eP]at e;exact P _ s1 .bA e (apv.oP r) .bA
def ajY{i j:I}(apw:iK d (.t t) F (.aT 6e7 aS q5))(S:∀p∈q5,p)(z:iK d 12e5 aS (.a8 i du CW))(oB:∀p∈CW,p)(n:gb apC du.O fN [] [] f)(R:f j=i)(apx:apC<=j)(l:∃C dd,fN[j]? =G (.a8 C dd))(T:0e1):n7 d t b apC F (.a8 j ⟨fN,T,du.bG⟩ []):=by
 intro k sc apq B h1 h2 x J aC h0 s Q EE Y a hz r apA g apv P;show zJ ?_;show eX (Nw (E:=λh h=>fT) apw S h1 Y a g) ?_ 50e6;rintro c s1 ⟨H,app,o,W⟩;show eX (z k sc B h2 x (J++aC++app) s1 (λh h=>fT) EE Y a hz r o ⟨oB,λm2 v u apr e apD r2=>?_⟩) 50e6 r;have KK:=apv.oP (W.oP apD);rw[D.eP,D.eP]at e r2;obtain⟨fE,gR,apu⟩:=du;show dU (n.sD apA e KK) λA m w apE=>?_;exact P A v u ⟨bN,l⟩ m w (apE (.Z j) u (by rw[show 73 (.Z j)= .Z (f j)from H,R];exact r2))
def ajZ(h:∀o1 o2,n7 d t b O.U 29e2 (o.mZ o2 [])):aw d (.s (.lQ t b)) O T o:=by
 have cR:∀o1 o2 k sc apq B,fe k sc (.t apq t)=true->fe k sc (.b B b)=true->JW d sc apq B 29e2 (o.mZ o2 []):=by
  intro o1 o2 k sc apq B h1 h2 x J s Q EE Y m hz v r P;have n:167 J [] 29e2 s:=by rw[D.dZ];exact r
  exact h o1 o2 k sc apq B h1 h2 x J [] s.M s Q EE Y m hz v r.cU n (Kp.b8 ..) P.toB
 intro o1 o2;show⟨λk sc S p=>?_,λk sc apq B t' b' e h1 h2=>by cases e;exact cR o1 o2 k sc apq B h1 h2⟩;cases k with
 |i5=>cases p
 |hI k=>
  exact Q2 p λa a a a h=>ki 7e5 (TE (cR o1 o2 k sc _ _ 27e9 31e6))
universe e
def wa(f:I->I):A->A
 | .v v=> .v 15e3
 | .b b=> .b b
 | .f .bA=> 24e4
 | .f (.bk v)=> 105 15e3
section
variable{d apC:I}{O fE fN:D aps}{T gR gc:D (I×V)}{o1 o2:D cq}{f:I->I}{ob:D Prop}
def gb.post{α β:Type}{a a3:α}(n:gb O.U fE fN gR gc f)(w:33e3){x:Fx}{J:aW}{s:ae}{br:17e8}{Q:12e2}{EE:0e5}(i:J.U=O.U)
  (aj0:∀{l l':aW} {h:ai} {u:β},(∀v u,RV l h 15e3 u->RV l' h v u)->br l h a u->br l' h a3 u) {o4:2e1} (P:11 (20 a3 fN gc o4 [])):11 (20 a fE gR o2 ob):=
 ⟨w,λaC s' u b apv r=>by
  show dU (n.sD i b apv) λm e k q=>?_
  exact P.2 m s' u (gQ e) k (aj0 q r)⟩
def aj1:∀{l l':aW} {h:ai} {u:af},(∀v u,RV l h 15e3 u->RV l' h v u)->RV l h 15e3 u->RV l' h v u:=λs r=>s _ _ r
def Wc:∀{l l':aW} {h:ai} {u:iM},(∀v u,RV l h 15e3 u->RV l' h v u)->RF l h (wa f a) u->RF l' h a u:=λs r=>by
 cases a with
 |v v=>cases r
 |b b=>cases r
 |f q=>
  cases q with
  |next=>cases r;exact .bA
  |bk v=>
   have r2:RF _ _ (105 15e3) _:=r;clear r;cases r2 with
   |bk r3=>exact .bk (s _ _ r3)
def Wd{g:V}{as:0e0}{v:V}(h:iK d 35e8 29e2 (20 (.v 15e3) fE gR o2 ob))(b:33e3)(n:gb O.U fE fN gR gc f)(e:kW (62 []) g):123 d 35e8 O T v fN gc:=by
 intro m o4;show⟨λx J s u us Q EE Y a k r P=>h.1 x J s u us Q EE Y (gQ a) k r ?_,λx J s Q EE P=>?_⟩
 ·have P:10 (20 v fN gc o4 []):=P;clear h;refine 10 (20 15e3 fE gR o2 (ob++[]));rw[D.dZ];exact n.post b a.cU aj1 P
 ·cases g with
  |aa v=>cases v<;>exact e
  |Z i=>exact e
  |_=>exact e
def aj2{b:15e5}{a:A}(h:iK d 12e5 29e2 (20 (wa f a) fE gR o2 ob))(v:33e3)(n:gb O.U fE fN gR gc f):aw d 12e5 O T (.Y a fN gc):=
 λq o4 k sc B m x J s Q EE Y r hz w e P=>h k sc B m x J s Q EE Y r hz w (gQ e) (n.post v e.cU Wc P)
universe e
def aj3(d:I)(h:cD)(B:11e1)(apC:I)(F:MS)(bI:2e9):Prop:=
 ∀(x:Fx) (J aC:aW) (h0:ai) (s:ae) (Q:34e6) (EE:0e5),3e6->x.ab.bt=h->x.fz=false->pW 3e0 x.A x.ab EE->J.U=apC->294 F s->56 J x h0 s.M->CV x J h0 bI RF Q EE->
  26 (mj B x.ab)
def ii(d:I)(b:15e5)(apC:I)(F:MS)(bI:2e9):Prop:=∀k sc B,fe k sc (.b B b)=true->aj3 d sc B apC F bI
section
variable{d apC:I}{F aS:MS}{b:D Internal.S}{sm:Internal.S}{fN:D aps}{gc:D (I×V)}{f:I->I}{bI:R A}{ob:D Prop}{a:A}
def mP(q:iK d (.s sm) F (57 aS ob))(m:33e3)(j:ii d b apC aS bI):ii d (sm::b) apC F bI:=by
 intro k sc B h x J aC h0 s Q EE Y e hz r i v apv P;cases k with
 |i5=>cases h
 |hI k=>
  cases B with
  |aR=>cases h
  |aQ S B=>
   show oA 18e3 λh1 h2=>?_;show 51e6;show aZ (q.1 k sc S h1 x (J++aC) s _ EE Y e hz r v ⟨m,λw s1 u a n r1=>?_⟩);cases r1;rw[D.eP]at a;exact j k sc B h2 x J (aC++w) h0 s1 Q EE Y e hz r i a (apv.oP n) P
def yZ(a:gb apC F.O fN F.T gc f)(w:∀bG,ii d b apC ⟨fN,gc,bG⟩ bI):ii d b apC F bI:=by
 intro k sc B n x J aC h0 s Q EE Y p hz q h m apv P;obtain⟨O,T,bG⟩:=F;show dU (a.sD h m apv) λv e r u=>?_;exact w bG k sc B n x J v h0 s Q EE Y p hz q h e r P
def aj4(l:iK d 12e5 F (.aT (wa f a) aS ob))(m:33e3)(r:gb apC aS.O fN aS.T gc f):ii d b apC F (20 a fN gc bG []):=by
 intro k sc B i x J aC h0 s Q EE Y w hz t c q apv P;obtain⟨app,pa,z⟩:=aS;show l k sc B i x (J++aC) s Q EE Y w hz t q ⟨m,λg s1 u h n r1=>?_⟩;rw[D.eP]at h r1;show dU (r.sD c h (apv.oP n)) λo e v j=>?_;exact P o s1 u (gQ e) v (Wc j r1)
def aj5(o:O[j]? =G (113 dd))(hd:lk dd n=G 15e9)(f:∀a,ii d b apC ⟨my O j (113 (fw dd n 26e0)),T,bG⟩ bI):ii d b apC (62 bG) bI:=by
 intro k sc B apD x J aC h0 s Q EE Y app hz apx apE m apv P;have apw:j<(J++aC).U:=by rw[m.cU];exact(118 o)
 show oE (⟨_,D.ie apw⟩:∃p,(J++aC)[j]? =5e1) λp w=>?_;obtain(⟨c,apA,es,apu,sl,e1,e2,e3,e4⟩):=m.O j _ p o w;have R:∀{dd:0e1} {es:26e2},ly (J++aC) s.M dd es->lk dd n=G 15e9->∃a,ly (J++aC) s.M (fw dd n 26e0) es/\(fw dd n 26e0).U=dd.U:=by
  intro dd es r;induction r with
  |aR=>exact λh=>nN h
  | @aQ q e dd es rv g ih=>
   intro h;rw[nT]at h;simp only[BK];cases z:I.bZ q.1 n with
   |true=>
    rw[z]at h;have l:=rv.2;rw[show q.2= 15e9 from 52e4]at l;generalize t:e.oT=u at l;cases l using mG.cE with
    |Z p w=>exact⟨p.1,.aQ ⟨rv.1,t▸ 14e9⟩ g,H⟩
   |false=>
    rw[z]at h;show aN (ih h) λa S l'=>?_;exact⟨a,.aQ rv S,bC (· +1) l'⟩
 show aN (R e4 hd) λa apr apq=>?_;show f a k sc B apD x J aC h0 s Q EE Y app hz apx apE ⟨m.d8,by rw[m.cU];exact(Ls _ _ _).bi,λv o' A g1 g2=>?_,m.nd,m.gz,m.up,m.bq,m.bI,m.hM,m.b3,m.hw,m.gD,m.fy,m.dD,m.os,m.cW⟩ apv P;have g3:(my O j (113 (fw dd n 26e0)))[v]? =G o':=g1;rw[Sf]at g3;by_cases q:j=v/\j<O.U
 ·rw[eY q]at g3;have E:=ar.G.cF g3;rw[<-q.1,w]at g2;have W:=ar.G.cF g2;rw[<-E,<-W];exact⟨by exact yr apq c,apA,es,apu,sl,e1,e2,e3,apr⟩
 ·rw[d6 q]at g3;exact m.O v o' A g3 g2
universe e
section
variable{d n:I}{O fE fN:D aps}{T pa gR gc:D (I×V)}{o1 o2:D cq}{ob:D Prop}{b:D Internal.S}{t:apw}{a:A}{bI:fk}
def We{α β:Type}{x:Fx}{J:aW}{s:ae}{a:α}{F:MS}{br:17e8}{Q:12e2}{EE:0e5}(h:33e3)(P:11 (125 a F)):11 (.aT a F ob):=⟨h,P.2⟩
def Wf(h:116 aw n d 12e5 O T o1= 20 a fE gR o2 ob)(v:33e3):aw d 12e5 O T (.Y a fE gR):=by
 have S:=hU d n 12e5 29e2;rw[h]at S;exact λq o4 k sc B m x J s Q EE Y r hz w e P=>S k sc B m x J s Q EE Y r hz w (gQ e) (We v (n6 (o:=o2) P H))
def wb{f:I->I}(h:116 aw n d 12e5 O T o1= 20 (wa f a3) fE gR o2 ob)(x:33e3)(s:gb O.U fE fN gR gc f):aw d 12e5 O T (.Y a3 fN gc):=by
 have S:=hU d n 12e5 29e2;rw[h]at S;exact aj2 S x s
def Wg{f:I->I}(e:116 aw 9 d (.t t) O T o0= 20 6e7 O T o0 [])(x:aw d 12e5 O T (52 fE gR))(s:gb apC fE fN gR gc f)(hL:∀o,n7 d t b apC ⟨fN,gc,o⟩ r):n7 d t b apC (62 o0) r:=by
 have S:=hU d 9 (.t t) (62 o0);rw[e]at S;exact ajW S (λa h=>nomatch h) (x o0 o0) (λa h=>nomatch h) s hL
def aj6(z:116 aw 9 d (.t t) O T o0= 20 6e7 O T o0 [])(app:aw d 12e5 O T (.a8 i fE gR)){f:I->I}(a:gb apC fE fN [] [] f)(e:f j=i)(w:apC<=j)(l:∃C dd,fN[j]? =G (.a8 C dd))(o:2e1):
  n7 d t b apC (62 o0) (.a8 j ⟨fN,gc,o⟩ []):=by
 have S:=hU d 9 (.t t) (62 o0);rw[z]at S;intro k sc apq B h1 h2 x J aC h0 s Q EE Y n hz v q m apv P;have c:CV x J h0 (.a8 j ⟨fN,gc,o0⟩ []) RF Q EE:=λaC s' u e R apv r=>P aC s' u e 26e4 apv r;exact ajY S (λp h=>nomatch h) (app o0 o0) (λp h=>nomatch h) a e w l gc k sc apq B h1 h2 x J aC h0 s Q EE Y n hz v q m apv c
def aj7(n:116 aw 9 d (.t t) O T o0= 20 1e9 O T o0 [])(o:2e1):n7 d t b apC (62 o0) (20 24e4 O T o []):=by
 have S:=hU d 9 (.t t) (62 o0);rw[n]at S;intro k sc apq B h1 h2 x J aC h0 s Q EE Y a hz p m e apv P;exact ajX S (λv h=>nomatch h) k sc apq B h1 h2 x J aC h0 s Q EE Y a hz p m e apv (λaC s' u R apv r=>P aC s' u 26e4 apv r)
def kr.id{f:I->I}(x:f=λi=>i)(s:∀(i:I) o,O[i]? =0e4->f9 f o=o)(b:∀k v,19e1=2e4->15e3=v):kr f O O T T:=by
 subst x;exact⟨λi o e=>⟨o,e,bC eJ (s i o e).bi⟩,λi h=>h,λi j a a h=>h,λk v e=>⟨v,e,bC dG (b k v e).bi⟩⟩
mutual
theorem n8:∀v:V,cK (λi=>i) v=v
 | .X l=>bC V.X (y0 l)
 | .ad l t=>bC (V.ad · t) (y0 l)
 | .Z i=>rfl
 | .aa v=>rfl
 | .bp b t=>rfl
 | .y i t=>rfl
 | .ag s=>rfl
 | .ch b=>rfl
 | .ei b=>rfl
theorem y0:∀l:D V,bQ (λi=>i) l=l
 | []=>rfl
 |v::l=>(bC (· ::_) (n8 v)).aV (bC (v:: ·) (y0 l))
end
def CX{α:Type}:∀l:D (α×V),(321 (p.1,cK 39e6 p.2))=l
 | []=>rfl
 |(a,v)::l=>by rw[D.nZ,CX l,n8]
def uv(o:aps):f9 39e6 o=o:=by
 cases o with
 |bw l=>exact bC aps.bw (CX l)
 |bv C d=>exact bC (aps.bv C) (CX d)
 |a8 C d=>exact bC (aps.a8 C) (CX d)
 |az l t=>exact bC (aps.az · t) (y0 l)
 |au l=>exact bC aps.au (y0 l)
 |cW k i=>exact congr (bC aps.cW (n8 k)) (n8 i)
 |eG=>rfl
def aj8{s:Tg}{it:It}{k:I}{v:V}{F h du:MS}{rb rl:MS->2e9}(x:32e4=G 2e4)(hs:pH F s v= 125 () h)(e:rb h= 57 du []):ui F s it k rb rl=rl du:=by
 unfold ui;rw[x];refine((pH F s v).aF _)=_;rw[hs];refine((rb h).aF _).cj []=_;rw[e,yE];refine(rl du).cj []=_;rw[yE]
def aj9{s:Tg}{it:It}{k:I}{v w:V}{F h du:MS}{rb rl:MS->2e9}(x:32e4=G 2e4)(hs:pH F s v= 125 () h)(e:rb h= 125 (105 w) du):ui F s it k rb rl= 125 (105 w) du:=by
 unfold ui;rw[x];refine((pH F s v).aF _)=_;rw[hs];refine((rb h).aF _).cj []=_;rw[e,yE];rfl
def gb.id(h:apC<=O.U):gb apC O O T T 39e6:=⟨.id H (λs s s=>uv _) (λs s s=>n8 _),λs s=>rfl,h⟩
def y1{r:Tg}{it:It}{k:I}{v:V}{n9:1e0}{oa:0e1}(q:∀F,32e4=G 2e4)(hs:∀o,pH (62 o) r v= 20 () O pa o [])(i:aw d 12e5 O pa (52 n9 oa))(hL:aw d (.gk r it (k+1) b) n9 oa bI):aw d (.gk r it k b) O T bI:=by
 classical
 intro p o4 m sc apq B h1 h2 h3;have z:=Ct (ih:=tE) (d:=d) (k:=k) (F:=(62 p)) (it:=it) (kt:=0) (B:=B) (rb:=λaS=>if aS.O=O/\aS.T=pa then 20 24e4 n9 oa aS.bG []else .no 0)
  (rl:=λaS=>if aS.O=n9/\aS.T=oa then bI.mZ o4 []else .no 0) (CM (ih:=tE) (d:=d) h1 0) (CN h1 h2) (λaS=>?_) (λaS=>?_)
 ·rw[aj8 (du:=⟨n9,oa,p⟩) (q _) (hs _) (eY 15e2),eY 15e2]at z;exact z
 ·by_cases h:aS.O=O/\aS.T=pa
  ·rw[eY h];obtain⟨tc,u,e⟩:=aS;(show oA h λe1 e2=>?_;try clear h);dsimp only at e1 e2;subst e1 e2;exact i e e m sc B h3
  ·rw[d6 h];exact λx J s Q EE Y w hz j n P=>P.ak
 ·by_cases h:aS.O=n9/\aS.T=oa
  ·rw[eY h];obtain⟨tc,u,e⟩:=aS;(show oA h λe1 e2=>?_;try clear h);dsimp only at e1 e2;subst e1 e2;exact hL e o4 m sc apq B h1 h2 h3
  ·rw[d6 h];exact λx dC aC f s Q EE l wr Y w hz j n apv a b c P=>P.ak
def aka{e:Tg}{it:It}{k:I}{v w:V}{n9:1e0}{oa:0e1}(q:∀F,32e4=G 2e4)(hs:∀o,pH (62 o) e v= 20 () O pa o [])(i:aw d 12e5 O pa (.Y (105 w) n9 oa)):aw d (.gk e it k b) O T (.Y (105 w) n9 oa):=by
 classical
 intro r o4 u sc apq B h1 h2 h3;have z:=Ct (ih:=tE) (d:=d) (k:=k) (F:=(62 r)) (it:=it) (kt:=0) (B:=B) (rb:=λaS=>if aS.O=O/\aS.T=pa then 20 (105 w) n9 oa o4 []else .no 0)
  (rl:=λaS=> .no 0) (CM (ih:=tE) (d:=d) h1 0) (CN h1 h2) (λaS=>?_) (λaS=>λx dC aC f s Q EE l wr Y m hz j p apv a b c P=>P.ak)
 ·rw[aj9 (du:=⟨n9,oa,o4⟩) (q _) (hs _) (eY 15e2)]at z;exact z
 ·by_cases h:aS.O=O/\aS.T=pa
  ·rw[eY h];obtain⟨tc,t,n⟩:=aS;(show oA h λe1 e2=>?_;try clear h);dsimp only at e1 e2;subst e1 e2;exact i n o4 u sc B h3
  ·rw[d6 h];exact λx J s Q EE Y m hz j p P=>P.ak
def Ny(n:∀F,32e4=G L):aw d (.gk tg it k b) O T (52 O T):=by
 intro v o4 w sc apq B h1 h2 h3;have z:=Ct (ih:=tE) (d:=d) (k:=k) (F:=(62 o4)) (it:=it) (kt:=0) (B:=B) (rb:=λaS=> .no 0) (rl:=λaS=> .no 0) (CM (ih:=tE) (d:=d) h1 0) (CN h1 h2) (λaS=>λx J s Q EE Y e hz r h P=>P.ak) (λaS=>λx dC aC m s Q EE p wr Y e hz r h apv a b c P=>P.ak);unfold ui at z;rw[n]at z;intro x dC aC m s Q EE p wr Y e hz r h apv a b c P;exact z x dC aC m s Q EE p wr Y e hz r (gQ h) apv a b c P
universe e
def uw(hr:∀J h us,83 y2->83 as)(h:aw d 35e8 O T bI):aw d (.aX g y2) O T bI:=by
 intro o1 o2;show oA (h o1 o2) λh1 h2=>?_;exact⟨λx J s u us Q EE Y b e a P=>h1 x J s u us Q EE Y b e (hr _ _ _ a) P,h2⟩
def Wh(hr:∀J h u,22e1->146 v')(h:123 d 35e8 O T v fE gR):123 d 35e8 O T v' fE gR:=by
 intro o1 o2;show oA (h o1 o2) λh1 h2=>?_;have cR:∀{x:Fx} {J:aW} {s:ae} {Q:0e5} {EE:0e5},10 (q2 ((fk.Y (.v v') fE gR).mZ o2 []))->10 (q2 ((fk.Y (.v v) fE gR).mZ o2 [])):=
  λP=>⟨λp h=>(nomatch h),λaC s' u e apv r=>P.2 aC s' u e apv (hr _ _ _ r)⟩
 exact⟨λx J s u us Q EE Y e a b P=>h1 x J s u us Q EE Y e a b (cR P),λx J s Q EE P=>h2 x J s Q EE (cR P)⟩
def akb(J:aW)(h:ai)(u:af)(r:146 (.y i t)):146 (.y i t'):=by cases r;exact .y ..
def iZ{n d:I}{g:V}{as:0e0}{O a:1e0}{T e:0e1}{o1 o2:2e1}{v:V}{ob:6e1}(h:116 aw n d 35e8 O T o1= 20 (.v v) a e o2 ob)(r:33e3)(m:kW (62 []) g):123 d 35e8 O T v a e:=by
 have S:=hU d n 35e8 29e2;rw[h]at S;clear h;intro q o4;show⟨λx J s u us Q EE Y b w k P=>S.1 x J s u us Q EE Y (gQ b) w k ?_,λx J s Q EE P=>?_⟩
 ·have P:10 (20 v a e o4 []):=P;clear S;refine 10 (20 v a e o2 (ob++[]));rw[D.dZ];exact We r (n6 (o:=o2) P H)
 ·cases g<;>exact m
def Nz{n d i:I}{g:V}{as:0e0}{O k:1e0}{T o gc:0e1}{o1 o2:2e1}{ob:6e1}(h:fU (116 aw n d 35e8 O T o1)= .a8 i ⟨k,o,o2⟩ ob)(q:33e3)(b:kW (62 []) g):aw d 35e8 O T (.a8 i k gc):=by
 have S:=hU d n 35e8 29e2;generalize apy aw n d (.aX g as) ⟨O,T,o1⟩=r at h S;cases r with
 |aT a F ob=>cases h
 |no w=>cases h
 |a8 app F f=>
  obtain⟨tc,z,t⟩:=F;cases h;intro c o4;show⟨λx J s u us Q EE Y e l j P=>S.1 x J s u us Q EE Y (gQ e) l j ?_,λx J s Q EE P=>?_⟩
  ·exact⟨q,λaC s' u m e apv r=>P.2 aC s' u m (gQ e) apv r⟩
  ·cases g with
   |aa v=>cases v<;>exact b
   |Z i=>exact b
   |_=>exact b
def i0{a:I}{F:MS}(h:(lk ft a).ir=true):kW F 26e0:=by
 show oE (ar.mV.mp h) λfn e=>?_;exact VU e
def a5:∀p∈([]:6e1),p:=λs h=>nomatch h
def ac{p:Prop}{l:6e1}(h:p)(x:∀q∈l,q):∀q∈p::l,q:=λq s=>(48e5).ak (λe=>e▸h) (x q)
def akc(P:PP)(d:I)(O:1e0)(T:0e1)(a n s:K)(w:V):228 20 1 459 [0e2,0e3,0e8,w] [1e9,1e9,1e9]= 93 0e6 O [bM (a<0)=false,bM (n<0)=false,bM (s<a+n)=false]:=av
def Wi{a n s:K}{t1 t2 t3:al}{w:V}(J:aW)(h:ai)(us:2e5)(r:83 [.y a t1,.y n t2,.y s t3,w]):83 [0e2,0e3,0e8,w]:=v9 cI r
def ij{d:I}{a n s:K}{t1 t2 t3:al}{w:V}(h:0<=a/\0<=n/\a+n<=s):235 aw (d+1) [.y a t1,.y n t2,.y s t3,w]:=by
 intro O T;exact uw Wi (iZ (akc aw d O T a n s w) (130 (127 h.1) (127 h.2.1) (127 h.2.2)) 17e5)
def y3(x:K):345 18446744073709551615=x % 18446744073709551616:=by
 by_cases s:0<=x
 ·rw[bitAnd_pp s aq];have h:x.aJ&&&(18446744073709551615:K).aJ=x.aJ % 18446744073709551616:=I.akd x.aJ 64;rw[h,K.Wj,K.um s];rfl
 ·rw[bitAnd_np s aq];have h:(18446744073709551615:K).aJ&&&(Builtin.CY x).aJ=(Builtin.CY x).aJ % 18446744073709551616:=by
   rw[I.and_comm];exact I.akd (Builtin.CY x).aJ 64
  rw[h];(show oE (K.eq_negSucc_of_lt_zero 53e0) λk a=>?_;subst a);have e:(Builtin.CY 43e7).aJ=k:=by unfold Builtin.CY;lia
  rw[e,K.negSucc_emod k (b:=18446744073709551616) aq];rw[K.Wj];rfl
def ake(P:PP)(d:I)(O:1e0)(T:0e1)(n:K):228 20 1 84 [0e3,28e8] []= 93 (2 (Builtin.i8 n 4294967295)) O []:=av
def akf(P:PP)(d:I)(O:1e0)(T:0e1)(n:K):228 20 1 84 [0e3,17e2] []= 93 (2 (Builtin.i8 n 18446744073709551615)) O []:=av
def Wk{d:I}{n:K}{t:al}:58 aw (d+1) 84 [.y n t,17e2] 50e4:=by
 intro O T;show uw (as:=[0e3,17e2]) (λJ h us r=>?_) (iZ (n:=20) (o1:=[]) (o2:=[]) (ob:=[]) ?_ (λp s=>nomatch s) 17e5)
 ·cases r with
  |aQ r1 r=>exact .aQ (akb _ _ _ r1) r
 ·rw[akf,y3]
def akg(a b:K)(k:I)(h:0<=a)(r:a<2^k)(x:0<=b):Builtin.Kc a (b*2^k)=a+b*2^k:=by
 have h2:(0:K)<=b*2^k:=K.Wl x (K.CZ aq);rw[bitOr_and,bitAnd_pp h h2];have:a.aJ&&&(b*2^k).aJ=0:=by
  have e:(b*2^k).aJ=b.aJ<<<k:=by
   rw[I.shiftLeft_eq];apply K.cg.cF;refine((b*2^k).aJ:K)=((b.aJ*2^k:I):K);rw[K.um h2,K.natCast_mul,K.um x,K.Wm];rfl
  have p:a.aJ<2^k:=by
   have h3:((a.aJ:I):K)<((2^k:I):K):=by rw[K.um h,K.Wm];exact r
   exact K.Lc.mp h3
  rw[e];apply I.eq_of_testBit_eq;intro i;rw[I.testBit_and,I.testBit_shiftLeft,I.zero_testBit];by_cases s:k<=i
  ·rw[I.testBit_lt_two_pow (I.mH p (I.pow_le_pow_right aq s))];rfl
  ·simp[s]
 rw[bb];lia
def y4:Internal.S:= .kM (170 59 [35e3])
def akh(P:PP)(d:I)(O:1e0)(a n s:K)(w:V)(o:2e1):ck (apy P 9 (d+1)) (170 59 [35e3]) (199 [(42,0e2),(9,0e3),(55,0e8),(58,w)] [])= 125 18e6 ⟨O++[.a8 51 [(58,w)]],[(42,0e2),(9,0e3),(55,0e8),(58,w)],[]⟩:=av
def aki(n0:I):V->MS->2e9:=λv bR=>gO v 140 λi=>gB (I.g6 n0 i) 150 (gN (bR.dL i) 150 λo=>A4 o i bR)
def akj:aw (d+1) (.s y4) O [(42,0e2),(9,0e3),(55,0e8),(58,w)] (.a8 O.U (O++[.a8 51 [(58,w)]]) []):=by
 have S:=hU (d+1) 10 (.s y4) (199 [(42,0e2),(9,0e3),(55,0e8),(58,w)] []);have e:116 aw 10 (d+1) (.s y4) O [(42,0e2),(9,0e3),(55,0e8),(58,w)] []= .a8 O.U ⟨O++[.a8 51 [(58,w)]],[(42,0e2),(9,0e3),(55,0e8),(58,w)],[]⟩ []:=by
  have e0:116 aw 10 (d+1) (.s y4) O [(42,0e2),(9,0e3),(55,0e8),(58,w)] []=(ck (apy aw 9 (d+1)) (170 59 [35e3]) (199 [(42,0e2),(9,0e3),(55,0e8),(58,w)] [])).aF (aki O.U):=av;rw[e0,akh _ _ _ _ _ _ _ []];refine 279 (gB (I.g6 O.U O.U) 150 (gN (MS.dL _ O.U) 150 λo=>A4 o O.U _))=_;rw[Nr,I.Ur.bn 11e7];rfl
 rw[e]at S;intro o1 o2;show⟨λk sc l c x J s' Q EE Y i hz j v P=>S.1 k sc l c x J s' Q EE Y i hz j (gQ v) ⟨λapp h=>(nomatch h),λaC m u p f apv r=>P.2 aC m u p (gQ f) apv r⟩,λk sc apq B t b q=>(by cases q)⟩
def akk(s:Internal.S):al:=match s with
 | .kM e=>(e.xG.cr λp=>p.1.g?).fP (I.bZ 59)
 |_=>false
def akl:Tk->al:=λtk=>match tk with
 | .s s=>akk s
 |_=>false
def akm(P:PP)(d:I)(O:1e0)(T:0e1)(a n s:K)(w:V):fU (228 20 2 459 [0e2,0e3,0e8,w] [1e9,1e9,6e7,.ed akl λh os l=> .a8 os.U (os++[.a8 51 [(58,w)]]) []])= .a8 O.U ⟨O++[.a8 51 [(58,w)]],[],[]⟩ [bM (a<0)=false,bM (n<0)=false,bM (s<a+n)=true,P (d+1) (.s y4) O [(42,0e2),(9,0e3),(55,0e8),(58,w)] (.a8 O.U (O++[.a8 51 [(58,w)]]) [])]:=av
def ks{d:I}{a n s:K}{t1 t2 t3:al}{w:V}(h:0<=a/\0<=n/\s<a+n):jR aw (d+2) 459 [.y a t1,.y n t2,.y s t3,w] w:=by
 intro O T;exact uw Wi (Nz (akm aw d O T a n s w) (25 (127 h.1) (127 h.2.1) (eF h.2.2) akj) 17e5)
def Wn(x:be):25e6<256:=by have:=x.C0;exact K.NA.mp bb
def akn(x:be)(k:K)(h:0<=k/\k<=1000):a9 .pA 25e6 k=true:=by
 have h1:=Wn x;show al.nM.bn ⟨al.nM.bn ⟨eF h.1,eF bN⟩,eF ?_⟩;have:(25e6).tz=x.aJ:=by exact K.natAbs_natCast x.aJ
 rw[bb];exact I.mH x.C0 aq
def y5:4e9->I->K->K
 | [],_,a=>a
 |x::l,k,a=>y5 l (k+8) (Builtin.Kc a (25e6*2^k))
def NB:4e9->K->6e1
 | [],_=>[]
 |x::l,k=>(a9 .pA 25e6 k=true)::NB l (k+8)
def ako(l:4e9):∀(k:I) (a:K),0<=a->a<2^k->y5 l k a=a+2^k*gm l:=by
 induction l with
 |aR=>exact λk a h h=>(bC (a+ ·) (K.mul_zero _)).aV (K.add_zero a) |>.bi
 |aQ x l b=>
  intro k a h0 h1;have r:=Wn x;have s:(0:K)<=x.aJ:=K.nU _;refine y5 l (k+8) (Builtin.Kc a (25e6*2^k))=a+2^k*(25e6+256*gm l);have e:(2:K)^(k+8)=2^k*256:=K.pow_add ..;have hm:25e6*2^k<=255*2^k:=K.mul_le_mul_of_nonneg_right (K.le_of_lt_add_one r) (K.CZ aq);have p:0<=25e6*2^k:=K.Wl s (K.CZ aq);rw[akg a _ k h0 h1 s,b (k+8) _ (K.Wo h0 p) (by rw[e];lia),e,K.mul_add,K.R8 (2^k) 25e6,<-K.mul_assoc,K.Wp]
def akp(l:4e9):∀k:K,0<=k->k+8*l.U<=1000->∀p∈NB l k,p:=by
 induction l with
 |aR=>exact λk h h=>a5
 |aQ x l s=>exact λk h0 h1=>have h1:k+8*((l.U+1:I):K)<=1000:=h1;ac (akn x k ⟨h0,bN⟩) (s (k+8) bN bN)
def akq(xs:4e9):Prop:=∀(P:PP) (d:I) (O:1e0) (T:0e1),228 30 1 447 [.ei xs] []= 93 (2 (y5 xs 0 0)) O (NB xs 0)
def C1(h:akq xs)(s:xs.U<=8):58 aw (d+1) 447 [.ei xs] 20e4:=by
 intro O T;have e:20e4=y5 xs 0 0:=((ako xs 0 0 (K.eD 0) aq).aV ((K.zero_add _).aV (K.one_mul _))).bi;rw[e];exact iZ (h aw d O T) (akp xs 0 (K.eD 0) bN) 17e5
def akr:58 aw (d+1) 447 [.ei [x0]] (gm [x0]):=54e6
def aks:58 aw (d+1) 447 [.ei [x0,x1]] (gm [x0,x1]):=54e6
def akt:58 aw (d+1) 447 [.ei [x0,x1,x2,x3]] (gm [x0,x1,x2,x3]):=54e6
def aku:58 aw (d+1) 447 [.ei [x0,x1,x2,x3,aqH,aqI,aqJ,aqK]] (gm [x0,x1,x2,x3,aqH,aqI,aqJ,aqK]):=54e6
def Wq(n b W W1 apz B1:K)(t:al):Prop:=∀(P:PP) (d:I) (O:1e0) (T:0e1) (x:K),228 30 2 105 [6e6,0 n,0 b] [.b t]= 93 (2 (Builtin.i8 (cC t (345 W1-W) (345 W1)) B1)) O [a9 .xo (345 W1) (n-1)=true,bM ((345 W1).aL apz≠0)=t]
def y6(r1:Wq n b W W1 apz B1 true)(m:Wq n b W W1 apz B1 false)(p:∀x,345 W1=x % W)(k:∀x,345 B1=x % B)(h:0<apz/\0<W/\W<=B/\0<=n-1)
  (e:m4 x n b=if apz<=x % W then(x % W-W) % B else x % W):58 aw (d+2) 105 [6e6,0 n,0 b] (m4 x n b):=by
 intro O T;(show lJ h λh1 h2 h3 a=>?_;try clear h);have hm:=K.ni x (K.vc h2);have s:=K.NC (x % W) (K.jz h1);rw[e];by_cases q:apz<=x % W
 ·have r:=r1 aw d O T x;rw[p,k,s]at r;rw[eY q];exact iZ r (24 (eF a) (eF λz=>bL (K.le_ediv_of_mul_le h1 (by rw[K.one_mul];exact q):1<=x % W/apz) (by rw[z];decide))) 17e5
 ·have r:=m aw d O T x;rw[p,k,s]at r;have r:_=R.aT (A.v (V.y (x % W % B) true)) _ _:=r;rw[K.Ws hm (K.mH (K.og x h2) h3)]at r;rw[d6 q];exact iZ r (24 (eF a) (fY λz=>z (K.ediv_eq_zero_of_lt hm (K.jX.mp q)))) 17e5
def akv:58 aw (d+2) 105 [6e6,0 8,28e8] (m4 x 8 32):=383 256 255 128 4294967296 4294967295 y7 C2 aq H
def akw:58 aw (d+2) 105 [6e6,4e0,28e8] (m4 x 16 32):=383 65536 65535 32768 4294967296 4294967295 Wt C2 aq H
def akx:58 aw (d+2) 105 [6e6,0 8,17e2] (m4 x 8 64):=383 256 255 128 18446744073709551616 18446744073709551615 y7 y3 aq H
def aky:58 aw (d+2) 105 [6e6,4e0,17e2] (m4 x 16 64):=383 65536 65535 32768 18446744073709551616 18446744073709551615 Wt y3 aq H
def akz:58 aw (d+2) 105 [6e6,28e8,17e2] (m4 x 32 64):=383 4294967296 4294967295 2147483648 18446744073709551616 18446744073709551615 C2 y3 aq H
def Wu(P:PP)(d:I)(O:1e0)(T:0e1)(s n apt:K):228 30 1 478 [0e8,0e3,0e6,40e2] [1e9,6e7]= 93 0e6 O [bM (n<0)=false,bM (apt<(s+n))=true]/\
  228 30 1 478 [0e8,0e3,0e6,40e2] [1e9,1e9]= 93 (2 (s+n)) O [bM (n<0)=false,bM (apt<(s+n))=false]:=⟨av,av⟩
def akA(h0:0<=n)(h:s+n<=apt):58 aw (d+1) 478 [0e8,0e3,0e6,40e2] (s+n):=λO T=>
 iZ (Wu aw d O T s n apt).2 (24 (127 h0) (127 h)) (17e5)
def akB(h0:0<=n)(h:¬(s+n<=apt)):cw aw (d+1) 478 [0e8,0e3,0e6,40e2] 0e6:=λO T=>
 iZ (Wu aw d O T s n apt).1 (24 (127 h0) (eF (K.jX.mp h))) (17e5)
def ND(P:PP)(d:I)(O:1e0)(T:0e1)(s n m apt:K):228 30 1 478 [0e8,0e3,0 m,40e2] [1e9,6e7]= 93 0e6 O [bM (n<0)=false,bM (apt<(s+n))=true]/\
  228 30 1 478 [0e8,0e3,0 m,40e2] [1e9,1e9,6e7]= 93 0e6 O [bM (n<0)=false,bM (apt<(s+n))=false,bM (m<(s+n))=true]/\
  228 30 1 478 [0e8,0e3,0 m,40e2] [1e9,1e9,1e9]= 93 (2 (s+n)) O [bM (n<0)=false,bM (apt<(s+n))=false,bM (m<(s+n))=false]:=⟨av,av,av⟩
def NE(h0:0<=n)(h:s+n<=apt/\s+n<=m):58 aw (d+1) 478 [0e8,0e3,0 m,40e2] (s+n):=λO T=>
 iZ (ND aw d O T s n m apt).2.2 (130 (127 h0) (127 h.1) (127 h.2)) (17e5)
def NF(h0:0<=n)(h:¬(s+n<=apt/\s+n<=m)):cw aw (d+1) 478 [0e8,0e3,0 m,40e2] 0e6:=λO T=>by
 by_cases q:s+n<=apt
 ·exact iZ (ND aw d O T s n m apt).2.1 (130 (127 h0) (127 q) (eF (K.jX.mp λz=>h ⟨q,z⟩))) 17e5
 ·exact iZ (ND aw d O T s n m apt).1 (24 (127 h0) (eF (K.jX.mp q))) 17e5
universe e
section
open PySem PySem.W
set_option backward.match.sparseCases false
def Wv(P:PP)(sh:Sh)(b:MB)(k k1:K)(T:0e1)(n:K)(aD:0e0):45 [5e8,0e3] aD [240 84 47e4]=40 b (2 47e4::aD) [58 P 36 84 [0e3,28e8] 47e4,aD.U+1<=16777216]:=by revert sh;show 4e3;kernel_rfl
def akC(P:PP)(sh:Sh)(b:MB)(k k1:K)(T:0e1)(n:K)(aD:0e0):45 [21e4,0e3] aD [240 84 50e4]=40 b (2 50e4::aD) [58 P 36 84 [0e3,17e2] 50e4,aD.U+1<=16777216]:=by revert sh;show 4e3;kernel_rfl
def akD(P:PP)(sh:Sh)(b:MB)(k k1:K)(T:0e1)(n:K)(aD:0e0):45 [0 208,0e3] aD []=40 b (0e6::aD) 25e2:=by revert sh;show 4e3;kernel_rfl
def akE(P:PP)(sh:Sh)(b:MB)(k k1:K)(T:0e1)(n v:K)(aD:0e0):45 [0 210,0e3] aD [.v (0 v)]=40 b (0 v::aD) [(dq [1e3,1e8,0e7,10e8,3e8,3e4] n)=G (0 v),aD.U+1<=16777216]:=by revert sh;show 4e3;kernel_rfl
def akF(P:PP)(sh:Sh)(b:MB)(k k1:K)(T:0e1)(aD:0e0):45 [28e8,0e7] aD []=40 b (0 9::aD) 25e2:=by revert sh;show 4e3;kernel_rfl
def akG(P:PP)(sh:Sh)(b:MB)(k k1:K)(T:0e1)(aD:0e0):45 [43e0] (0e6::aD) []=40 b (1e3::aD) 25e2:=by revert sh;show 4e3;kernel_rfl
def akH(P:PP)(sh:Sh)(b:MB)(k k1:K)(T:0e1)(v:K)(aD:0e0):45 [43e0] (0 v::aD) []=40 b (0e7::aD) 25e2:=by revert sh;show 4e3;kernel_rfl
def akI(P:PP)(sh:Sh)(b:MB)(k k1:K)(T:0e1)(aD:0e0):45 [16e3,0e7] aD []=40 b (31e2::aD) 25e2:=by revert sh;show 4e3;kernel_rfl
def akJ(P:PP)(sh:Sh)(b:MB)(k k1:K)(T:0e1)(aD:0e0):45 [16e3,1e3] aD []=40 b (31e1::aD) 25e2:=by revert sh;show 4e3;kernel_rfl
def akK(P:PP)(sh:Sh)(b:MB)(k k1:K)(T:0e1)(aD:0e0):cG P sh 44e7 k k1 (.X [16e3,1e8]) aD T []=40 44e7 (0e6::aD) 25e2:=by revert sh;show 4e3;kernel_rfl
def akL(P:PP)(sh:Sh)(b:MB)(k k1:K)(T:0e1)(v:K)(aD:0e0):cG P sh (338 v) k k1 (.X [16e3,1e8]) aD T []=40 (338 v) (0 v::aD) 25e2:=by revert sh;show 4e3;kernel_rfl
def akM(P:PP)(sh:Sh)(b:MB)(k k1:K)(T:0e1)(v:K)(aD:0e0):45 [21e3,0e7] (2 v::aD) []=40 {b with c0:=v} aD []:=by revert sh;show 4e3;kernel_rfl
def akN(P:PP)(sh:Sh)(b:MB)(k k1:K)(T:0e1)(v:K)(aD:0e0):45 [21e3,1e3] (2 v::aD) []=40 {b with c1:=v} aD []:=by revert sh;show 4e3;kernel_rfl
def akO(P:PP)(sh:Sh)(b:MB)(k k1:K)(T:0e1)(v:V)(aD:0e0):45 [21e3,1e8] (v::aD) []=40 {b with c2:=v} aD []:=by revert sh;show 4e3;kernel_rfl
def akP(P:PP)(sh:Sh)(b:MB)(k k1:K)(T:0e1):45 [0 63] [] []=40 b [2 ((10e2).aL 16)] [15 10e2 16=true,1<=16777216]:=by revert sh;show 4e3;kernel_rfl
def akQ(P:PP)(sh:Sh)(b:MB)(k k1:K)(T:0e1)(n:K):45 [17e2] [0e3] [229 478 0e6]=40 b [44e6] [15 10e2 16=true,cw P 33 478 [2 ((10e2).aL 16),0e3,1e8,3e4] 0e6,1<=16777216]:=by revert sh;show 4e3;kernel_rfl
def akR(P:PP)(sh:Sh)(b:MB)(k k1:K)(T:0e1)(n:K):45 [17e2] [0e3] [240 478 (((10e2).aL 16)+n)]=40 {b with aO:=(b.aO++(D.gj ((n*16)).aJ (0:be)))} [2 ((10e2).aL 16)] [15 10e2 16=true,58 P 33 478 [2 ((10e2).aL 16),0e3,1e8,3e4] (((10e2).aL 16)+n),a9 .f4 n 16=true,bM (0<=(n*16)/\(n*16)<=16777216)=true,b.aO.U+(D.gj ((n*16)).aJ (0:be)).U<=16777216,1<=16777216]:=by revert sh;show 4e3;kernel_rfl
def akS(P:PP)(sh:Sh)(b:MB)(k k1:K)(T:0e1)(n s a:K):94 b [16e1] [0e3,0e8,0e2] [39e4]=149 b (58,2e7) [jR P 32 459 [0e2,0e3,22e8,2e7] 2e7]:=by revert sh;show 4e3;kernel_rfl
def akT(P:PP)(sh:Sh)(b:MB)(k k1:K)(T:0e1)(n s a:K):45 [16e1] [0e3,0e8,0e2] [13e2]=40 {b with aO:=(205 b.aO (dN [280 ((340 s))] n))} [] [197 [0e2,0e3,22e8,2e7],([(340 s)].dM (290 (i<256)))=true,xu [280 ((340 s))] n=true,b.aO.U+(dN [280 ((340 s))] n).U<=16777216]:=by revert sh;show 4e3;kernel_rfl
def akU(P:PP)(sh:Sh)(b:MB)(k k1:K)(T:0e1)(n s a:K):94 b [20e8] [0e3,0e8,0e2] [39e4]=149 b (58,2e7) [jR P 32 459 [0e8,0e3,22e8,2e7] 2e7]:=by revert sh;show 4e3;kernel_rfl
def akV(P:PP)(sh:Sh)(b:MB)(k k1:K)(T:0e1)(n s a:K):94 b [20e8] [0e3,0e8,0e2] [13e2,39e4]=149 b (58,2e7) [197 [0e8,0e3,22e8,2e7],jR P 32 459 [0e2,0e3,22e8,2e7] 2e7]:=by revert sh;show 4e3;kernel_rfl
def akW(P:PP)(sh:Sh)(b:MB)(k k1:K)(T:0e1)(n s a:K):45 [20e8] [0e3,0e8,0e2] [13e2,13e2]=40 {b with aO:=(213 b.aO)} [] [197 [0e8,0e3,22e8,2e7],197 [0e2,0e3,22e8,2e7],b.aO.U+(50 b.aO s (s+n)).U<=16777216]:=by revert sh;show 4e3;kernel_rfl
def akX(P:PP)(sh:Sh)(b:MB)(k k1:K)(T:0e1)(i:K)(h:16e0)(n s a:K)(dt:4e9):94 23e2 [8e6,6e5] [0e3,0e8,0e2] [39e4]=149 23e2 (58,2e7) [jR P 33 459 [0e8,0e3,2 (dt.U:K),2e7] 2e7]:=by revert sh;show 4e3;replace h:=mD h;revert i h;show 3e1;kernel_rfl
def akY(P:PP)(sh:Sh)(b:MB)(k k1:K)(T:0e1)(i:K)(h:16e0)(n s a:K)(dt:4e9):94 23e2 [8e6,6e5] [0e3,0e8,0e2] [13e2,39e4]=149 23e2 (58,2e7) [235 P 33 [0e8,0e3,2 (dt.U:K),2e7],jR P 32 459 [0e2,0e3,22e8,2e7] 2e7]:=by revert sh;show 4e3;replace h:=mD h;revert i h;show 3e1;kernel_rfl
def akZ(P:PP)(sh:Sh)(b:MB)(k k1:K)(T:0e1)(i:K)(h:16e0)(n s a:K)(dt:4e9):cG P sh 23e2 k k1 (.X [8e6,6e5]) [0e3,0e8,0e2] T [13e2,13e2]=40 {(23e2)with aO:=(213 dt)} [] [235 P 33 [0e8,0e3,2 (dt.U:K),2e7],197 [0e2,0e3,22e8,2e7],b.aO.U+(50 dt s (s+n)).U<=16777216]:=by revert sh;show 4e3;replace h:=mD h;revert i h;show 3e1;kernel_rfl
def ak0(P:PP)(sh:Sh)(b:MB)(k k1:K)(T:0e1)(i:K)(h:16e0)(n s a:K):94 19e8 [8e6,6e5] [0e3,0e8,0e2] [39e4]=149 19e8 (58,2e7) [jR P 33 459 [0e8,0e3,12e8,2e7] 2e7]:=by revert sh;show 4e3;replace h:=mD h;revert i h;show 3e1;kernel_rfl
def ak1(P:PP)(sh:Sh)(b:MB)(k k1:K)(T:0e1)(i:K)(h:16e0)(n s a:K):94 19e8 [8e6,6e5] [0e3,0e8,0e2] [13e2,39e4]=149 19e8 (58,2e7) [235 P 33 [0e8,0e3,12e8,2e7],jR P 32 459 [0e2,0e3,22e8,2e7] 2e7]:=by revert sh;show 4e3;replace h:=mD h;revert i h;show 3e1;kernel_rfl
def ak2(P:PP)(sh:Sh)(b:MB)(k k1:K)(T:0e1)(i:K)(h:16e0)(n s a:K):cG P sh 19e8 k k1 (.X [8e6,6e5]) [0e3,0e8,0e2] T [13e2,13e2]=40 {(19e8)with aO:=(213 ([]:4e9))} [] [235 P 33 [0e8,0e3,12e8,2e7],197 [0e2,0e3,22e8,2e7],b.aO.U+(50 ([]:4e9) s (s+n)).U<=16777216]:=by revert sh;show 4e3;replace h:=mD h;revert i h;show 3e1;kernel_rfl
def ak3(P:PP)(sh:Sh)(b:MB)(k k1:K)(T:0e1)(i:K)(s:16e0):45 [48e7,6e5] [] []=40 19e8 [] []:=by revert sh;show 4e3;replace s:=mD s;revert i s;show 3e1;kernel_rfl
def ak4(P:PP)(sh:Sh)(b:MB)(k k1:K)(T:0e1)(t:K)(s:7e3)(a:K)(v:V):94 b [38e1,1e1] [0e2] [39e5]=149 b (58,3e9) [jR P 32 459 [0e2,1e3,20e9,3e9] 3e9]:=by revert sh;show 4e3;replace s:=20e6;revert t s;show 3e1;kernel_rfl
def ak5(P:PP)(sh:Sh)(b:MB)(k k1:K)(T:0e1)(t:K)(s:7e3)(a:K)(v:V):45 [38e1,1e1] [0e2] [13e2,.v v]=40 b [v] [197 [0e2,1e3,20e9,3e9],16e4=2e4,1<=16777216]:=by revert sh;show 4e3;replace s:=20e6;revert t s;show 3e1;kernel_rfl
def ak6(P:PP)(sh:Sh)(b:MB)(k k1:K)(T:0e1)(t:K)(s:7e3)(a:K)(v:V):94 b [0 38,1e1] [v,0e2] [39e5]=149 b (58,3e9) [jR P 32 459 [0e2,1e3,20e9,3e9] 3e9]:=by revert sh;show 4e3;replace s:=20e6;revert t s;show 3e1;kernel_rfl
def ak7(P:PP)(sh:Sh)(b:MB)(k k1:K)(T:0e1)(t:K)(s:7e3)(a:K)(v:V):45 [0 38,1e1] [v,0e2] [13e2]=40 (227 (D.cN 10e3 (a).aJ v)) [] [197 [0e2,1e3,20e9,3e9],bM (0<=a/\a<5e2)=true]:=by revert sh;show 4e3;replace s:=20e6;revert t s;show 3e1;kernel_rfl
def ak8(P:PP)(sh:Sh)(b:MB)(k k1:K)(T:0e1)(t:K)(s:7e3):45 [48e8,1e1] [] []=40 b [20e9] (287 1):=by revert sh;show 4e3;replace s:=20e6;revert t s;show 3e1;kernel_rfl
def ak9(P:PP)(sh:Sh)(b:MB)(k k1:K)(T:0e1)(t:K)(s:7e3)(n:K)(v:V):45 [39e2,1e1] [0e3,v] [229 478 0e6]=40 b [44e6] [cw P 33 478 [20e9,0e3,A7 t,16e9] 0e6,1<=16777216]:=by revert sh;show 4e3;replace s:=20e6;revert t s;show 3e1;kernel_rfl
def ala(P:PP)(sh:Sh)(b:MB)(k k1:K)(T:0e1)(t:K)(s:7e3)(n:K)(v:V):45 [39e2,1e1] [0e3,v] [240 478 (5e2+n)]=40 (227 (10e3++35e7)) [20e9] [58 P 33 478 [20e9,0e3,A7 t,16e9] (5e2+n),jO n=true,(35e7).U<=16777216,((10e3++35e7)).U<=16777216,1<=16777216]:=by revert sh;show 4e3;replace s:=20e6;revert t s;show 3e1;kernel_rfl
def alb(P:PP)(sh:Sh)(b:MB)(k k1:K)(T:0e1)(t:K)(s:7e3)(n a:K)(v:V):94 b [33e6,1e1] [0e3,v,0e2] [39e5]=149 b (58,3e9) [jR P 31 459 [0e2,0e3,20e9,3e9] 3e9]:=by revert sh;show 4e3;replace s:=20e6;revert t s;show 3e1;kernel_rfl
def alc(P:PP)(sh:Sh)(b:MB)(k k1:K)(T:0e1)(t:K)(s:7e3)(n a:K)(v:V):45 [33e6,1e1] [0e3,v,0e2] [13e2]=40 (227 (205 10e3 35e7)) [] [235 P 31 [0e2,0e3,20e9,3e9],jO n=true,(35e7).U<=16777216,(10e3).U+(35e7).U<=16777216]:=by revert sh;show 4e3;replace s:=20e6;revert t s;show 3e1;kernel_rfl
def ald(P:PP)(sh:Sh)(b:MB)(k k1:K)(T:0e1)(x app:K)(h:CP x app)(n s a:K):94 b [28e5,0 x,17e1] [0e3,0e8,0e2] [39e5]=149 b (58,3e9) [jR P 31 459 [0e8,0e3,2 50e9,3e9] 3e9]:=by revert sh;show 4e3;replace h:=xM h;revert x app h;show 13e7;kernel_rfl
def ale(P:PP)(sh:Sh)(b:MB)(k k1:K)(T:0e1)(x app:K)(h:CP x app)(n s a:K):94 b [28e5,0 x,17e1] [0e3,0e8,0e2] [13e2,39e5]=149 b (58,3e9) [235 P 31 [0e8,0e3,2 50e9,3e9],jR P 31 459 [0e2,0e3,2 54e8,3e9] 3e9]:=by revert sh;show 4e3;replace h:=xM h;revert x app h;show 13e7;kernel_rfl
def alf(P:PP)(sh:Sh)(b:MB)(k k1:K)(T:0e1)(x app:K)(h:CP x app)(n s a:K):45 [28e5,0 x,17e1] [0e3,0e8,0e2] [13e2,13e2]=40 (b.e6 x (234 (b.tb x) 18e5)) [] [235 P 31 [0e8,0e3,2 50e9,3e9],235 P 31 [0e2,0e3,2 54e8,3e9],((50 18e5 s (s+n))).U<=16777216,(b.tb x).U+((50 18e5 s (s+n))).U<=16777216]:=by revert sh;show 4e3;replace h:=xM h;revert x app h;show 13e7;kernel_rfl
def alg(P:PP)(sh:Sh)(b:MB)(k k1:K)(T:0e1)(e t:K)(h:IN e t)(n s a:K)(dt:0e0):94 23e3 [8e7,11e5,1e1] [0e3,0e8,0e2] [39e5]=149 23e3 (58,3e9) [jR P 32 459 [0e8,0e3,2 (dt.U:K),3e9] 3e9]:=by revert sh;show 4e3;replace h:=pM h;revert e t h;show 13e7;kernel_rfl
def alh(P:PP)(sh:Sh)(b:MB)(k k1:K)(T:0e1)(e t:K)(h:IN e t)(n s a:K)(dt:0e0):94 23e3 [8e7,11e5,1e1] [0e3,0e8,0e2] [13e2,39e5]=149 23e3 (58,3e9) [197 [0e8,0e3,2 (dt.U:K),3e9],jR P 31 459 [0e2,0e3,20e9,3e9] 3e9]:=by revert sh;show 4e3;replace h:=pM h;revert e t h;show 13e7;kernel_rfl
def ali(P:PP)(sh:Sh)(b:MB)(k k1:K)(T:0e1)(e t:K)(h:IN e t)(n s a:K)(dt:0e0):cG P sh 23e3 k k1 (.X [8e7,11e5,1e1]) [0e3,0e8,0e2] T [13e2,13e2]=40 ((23e3).e6 t (320 dt)) [] [197 [0e8,0e3,2 (dt.U:K),3e9],235 P 31 [0e2,0e3,20e9,3e9],((50 dt s (s+n))).U<=16777216,(10e3).U+((50 dt s (s+n))).U<=16777216]:=by revert sh;show 4e3;replace h:=pM h;revert e t h;show 13e7;kernel_rfl
def alj(P:PP)(sh:Sh)(b:MB)(k k1:K)(T:0e1)(e t:K)(h:IN e t)(n s a:K):94 23e8 [8e7,11e5,1e1] [0e3,0e8,0e2] [39e5]=149 23e8 (58,3e9) [jR P 32 459 [0e8,0e3,0e7,3e9] 3e9]:=by revert sh;show 4e3;replace h:=pM h;revert e t h;show 13e7;kernel_rfl
def alk(P:PP)(sh:Sh)(b:MB)(k k1:K)(T:0e1)(e t:K)(h:IN e t)(n s a:K):94 23e8 [8e7,11e5,1e1] [0e3,0e8,0e2] [13e2,39e5]=149 23e8 (58,3e9) [197 [0e8,0e3,0e7,3e9],jR P 31 459 [0e2,0e3,20e9,3e9] 3e9]:=by revert sh;show 4e3;replace h:=pM h;revert e t h;show 13e7;kernel_rfl
def m_tinn2(P:PP)(sh:Sh)(b:MB)(k k1:K)(T:0e1)(e t:K)(h:IN e t)(n s a:K):cG P sh 23e8 k k1 (.X [8e7,11e5,1e1]) [0e3,0e8,0e2] T [13e2,13e2]=40 ((23e8).e6 t 49e9) [] [197 [0e8,0e3,0e7,3e9],235 P 31 [0e2,0e3,20e9,3e9],((50 27e2 s (s+n))).U<=16777216,(10e3).U+((50 27e2 s (s+n))).U<=16777216]:=by revert sh;show 4e3;replace h:=pM h;revert e t h;show 13e7;kernel_rfl
def m_edr(P:PP)(sh:Sh)(b:MB)(k k1:K)(T:0e1)(i:K)(s:16e0):45 [48e9,6e5] [] []=40 (b.fC i 0e6) [] []:=by revert sh;show 4e3;replace s:=mD s;revert i s;show 3e1;kernel_rfl
def m_inx(P:PP)(sh:Sh)(b:MB)(k k1:K)(T:0e1)(q t i:K)(v:V)(z:am):94 b [4e1,10e7,1e1] [14e8,v] [298 46e1 (206 24e9 b k1 [v] 51 [(58,7e8)] l)]=gy 24e9 (139 b k1 [v] 51 [(58,7e8)]) [P 35 (272 [7e9,3e7,.X [4e1,10e7,1e1]]) (101 b [14e8,v]) [(164,7e9),(207,3e7),(43,.X [4e1,10e7,1e1]),(6,4e1)] (206 24e9 b k1 [v] 51 [(58,7e8)] [(164,7e9),(207,3e7),(43,.X [4e1,10e7,1e1]),(6,4e1)])]:=by revert sh;show 4e3;kernel_rfl
def m_inx2(P:PP)(sh:Sh)(b:MB)(k k1:K)(T:0e1)(q t i:K)(v w:V)(z:am):94 b [4e1,10e7,1e1] [14e8,v,w] [298 46e1 (206 24e9 b k1 [v,w] 51 [(58,7e8)] l)]=gy 24e9 (139 b k1 [v,w] 51 [(58,7e8)]) [P 35 (272 [7e9,3e7,.X [4e1,10e7,1e1]]) (101 b [14e8,v,w]) [(164,7e9),(207,3e7),(43,.X [4e1,10e7,1e1]),(6,4e1)] (206 24e9 b k1 [v,w] 51 [(58,7e8)] [(164,7e9),(207,3e7),(43,.X [4e1,10e7,1e1]),(6,4e1)])]:=by revert sh;show 4e3;kernel_rfl
def m_tlx(P:PP)(sh:Sh)(b:MB)(k k1:K)(T:0e1)(q t i:K)(v:V)(z:am):94 b [8e3,10e7,1e1] [14e8,v] [298 46e1 (206 24e9 b k1 [v] 51 [(58,7e8)] l)]=gy 24e9 (139 b k1 [v] 51 [(58,7e8)]) [P 35 (272 [7e9,3e7,.X [8e3,10e7,1e1]]) (101 b [14e8,v]) [(164,7e9),(207,3e7),(43,.X [8e3,10e7,1e1]),(6,8e3)] (206 24e9 b k1 [v] 51 [(58,7e8)] [(164,7e9),(207,3e7),(43,.X [8e3,10e7,1e1]),(6,8e3)])]:=by revert sh;show 4e3;kernel_rfl
def m_fin(P:PP)(sh:Sh)(b:MB)(k k1:K)(T:0e1)(au:0e0):45 [21e2] au []=ea (Kn sh b k1 au) T []:=by revert sh;show 4e3;kernel_rfl
def m_tlk(P:PP)(sh:Sh)(h:15e0)(b:MB)(k k1:K)(T:0e1)(t i:K)(v:V):45 [8e3,1e3,1e1] [14e8,v] [298 46e1 (36 1e8 (101 b [v]) l)]=ea (xK sh {b with no:=(b.no++[.X [1e3,6 [v]]])} k1 [v]) T [P 35 (272 [7e9,3e7,.X [8e3,1e3,1e1]]) (101 b [14e8,v]) [(164,7e9),(207,3e7),(43,.X [8e3,1e3,1e1]),(6,8e3)] (36 1e8 (101 b [v]) [(164,7e9),(207,3e7),(43,.X [8e3,1e3,1e1]),(6,8e3)]),1<=16777216,1<=16777216,0<=16777216,1<=16777216,1<=16777216,b.no.U+1<=16777216,0<=16777216]:=by replace h:=nL h;revert sh h;show 3e1;kernel_rfl
def m_far3(P:PP)(sh:Sh)(h:15e0)(b:MB)(k k1:K)(T:0e1)(fa s:K):cG P sh 51e2 k k1 (.X [4e0,3e8]) [0e8,13e3] T []=ea (pK sh {b with apr:=3,pk:=(jq b.pk 2)} k1 [0e8,13e3] fa s true) T (287 2):=by replace h:=nL h;revert sh h;show 3e1;kernel_rfl
def m_inf3(P:PP)(sh:Sh)(h:15e0)(b:MB)(k k1:K)(T:0e1)(t i fa s:K):cG P sh 51e2 k k1 (.X [4e1,3e8,1e1]) [14e8,0e8,13e3] T [.ed 46e1 λx x l=> 36 3e4 (101 51e2 [0e8,13e3]) l]=ea (pK sh {b with apr:=3,pk:=(jq b.pk 2)} k1 [0e8,13e3] fa s true) T [P 35 (272 [7e9,3e7,.X [4e1,3e8,1e1]]) (101 51e2 [14e8,0e8,13e3]) [(164,7e9),(207,3e7),(43,.X [4e1,3e8,1e1]),(6,4e1)] (36 3e4 (101 51e2 [0e8,13e3]) [(164,7e9),(207,3e7),(43,.X [4e1,3e8,1e1]),(6,4e1)]),2<=16777216]:=by replace h:=nL h;revert sh h;show 3e1;kernel_rfl
def m_far1(P:PP)(sh:Sh)(h:15e0)(b:MB)(k k1:K)(T:0e1)(fa s:K):94 44e8 [4e0,3e8] [0e8,13e3] []=gy 24e9 (139 44e8 k1 [0e8,13e3] 63 [(58,14e5)]) []:=by replace h:=nL h;revert sh h;show 3e1;kernel_rfl
def m_inf1(P:PP)(sh:Sh)(h:15e0)(b:MB)(k k1:K)(T:0e1)(t i fa s:K):94 44e8 [4e1,3e8,1e1] [14e8,0e8,13e3] [.ed 46e1 λx x l=> 36 3e4 (101 44e8 [0e8,13e3]) l]=gy 24e9 (139 44e8 k1 [0e8,13e3] 63 [(58,14e5)]) [P 35 (272 [7e9,3e7,.X [4e1,3e8,1e1]]) (101 44e8 [14e8,0e8,13e3]) [(164,7e9),(207,3e7),(43,.X [4e1,3e8,1e1]),(6,4e1)] (36 3e4 (101 44e8 [0e8,13e3]) [(164,7e9),(207,3e7),(43,.X [4e1,3e8,1e1]),(6,4e1)])]:=by replace h:=nL h;revert sh h;show 3e1;kernel_rfl
def m_adu(P:PP)(sh:Sh)(h:15e0)(b:MB)(k1:K)(T:0e1)(c q a t:K)(s:19e3)(aD:0e0):fU (vt P sh b k1 (.X [1e5,10e7,1e1]) (0e2::aD) T [6e7])=gy 24e9 (139 b k1 aD 51 [(58,.ag xj)]) [bM (5e2<=a)=true]:=by replace h:=nL h;revert sh h;show 3e1;replace s:=pL s;revert t s;show 3e1;kernel_rfl
def m_adn(P:PP)(sh:Sh)(h:15e0)(b:MB)(k1:K)(T:0e1)(c q a t:K)(s:19e3)(aD:0e0):fU (vt P sh b k1 (.X [1e5,10e7,1e1]) (0e2::aD) T [1e9,.v 0e6])=gy 24e9 (139 b k1 aD 51 [(58,.ag xk)]) [bM (5e2<=a)=false,16e4=G 0e6]:=by replace h:=nL h;revert sh h;show 3e1;replace s:=pL s;revert t s;show 3e1;kernel_rfl
def m_adw(P:PP)(sh:Sh)(h:15e0)(b:MB)(k1:K)(T:0e1)(c q a t app:K)(s:Q3 q)(x:19e3)(e:Y6 app)(r:31e3≠q)(aD:0e0):fU (vt P sh b k1 (.X [1e5,10e7,1e1]) (0e2::aD) T [1e9,37e2,37e2])=gy 24e9 (139 b k1 aD 51 [(58,.ag xm)]) [bM (5e2<=a)=false,16e4=34e2,16e4=34e2]:=by replace h:=nL h;revert sh h;show 3e1;replace x:=pL x;revert t x;show 3e1;replace s:=QM s e r;clear r e;revert q app s;show 13e7;kernel_rfl
def NG(P:PP)(sh:Sh)(h:15e0)(b:MB)(k1:K)(T:0e1)(c a t app:K)(x:19e3)(s:app=0\/app=2\/app=3)(aD:0e0):vt P sh b k1 (.X [1e5,49e5,1e1]) (0e2::aD) T [1e9,37e2,37e2,37e2]=QF 17e1 (101 b aD) T [bM (5e2<=a)=false,16e4=34e2,16e4=34e2,16e4=34e2]:=by replace h:=nL h;revert sh h;show 3e1;replace x:=pL x;revert t x;show 3e1;replace s:=Y3_m s;revert app s;show 3e1;kernel_rfl
def m_ink(P:PP)(sh:Sh)(h:15e0)(b:MB)(k k1:K)(T:0e1)(q t i app:K)(s:app=0\/app=2)(v:V):45 [4e1,10e7,1e1] [14e8,v] [.ed 46e1 λx x l=> 36 17e1 (101 b [v]) l]=ea (vq sh {b with no:=(b.no++[.X [49e5,6 [v]]])} k1 [v] [] [3e7]) T [P 35 (272 [7e9,3e7,.X [4e1,10e7,1e1]]) (101 b [14e8,v]) [(164,7e9),(207,3e7),(43,.X [4e1,10e7,1e1]),(6,4e1)] (36 17e1 (101 b [v]) [(164,7e9),(207,3e7),(43,.X [4e1,10e7,1e1]),(6,4e1)]),1<=16777216,1<=16777216,b.no.U+1<=16777216,0<=16777216]:=by replace h:=nL h;revert sh h;show 3e1;replace s:=pL s;revert app s;show 3e1;kernel_rfl
def m_host(P:PP)(sh:Sh)(h:15e0)(b:MB)(k k1:K)(T:0e1)(f:K)(s:f=1\/f=2\/f=3\/f=4)(v:V):45 [4e0,0 f] [v] []=ea (vq sh {b with no:=(b.no++[.X [0 f,6 [v]]])} k1 [v] [] [3e7]) T [1<=16777216,1<=16777216,b.no.U+1<=16777216,0<=16777216]:=by replace h:=nL h;revert sh h;show 3e1;replace s:=QJ s;revert f s;show 3e1;kernel_rfl
def m_ldx(P:PP)(sh:Sh)(b:MB)(k k1:K)(T:0e1)(c n a o:K)(s:LU c n\/∃q,LS c n q):94 b [1e5,0e7,12e6] [0e2] [39e4]=149 b (58,2e7) [jR P 32 459 [2 (a+o),0 n,22e8,2e7] 2e7]:=by revert sh;show 4e3;replace s:=QL s;revert c n s;show 13e7;kernel_rfl
def m_ld(P:PP)(sh:Sh)(b:MB)(k k1:K)(T:0e1)(c n a o:K)(xs:4e9)(s:LU c n):45 [1e5,0e7,12e6] [0e2] [13e2,.by xs,240 447 20e4]=40 b [2 20e4] [197 [2 (a+o),0 n,22e8,2e7],50 b.aO (a+o) (a+o+n)=xs,58 P 33 447 [.ei xs] 20e4,1<=16777216]:=by revert sh;show 4e3;replace s:=Ko s;revert c n s;show 13e7;kernel_rfl
def m_lds(P:PP)(sh:Sh)(b:MB)(k k1:K)(T:0e1)(c n q a o:K)(xs:4e9)(s:LS c n q):45 [1e5,0e7,12e6] [0e2] [13e2,.by xs,240 447 20e4,240 105 (m4 20e4 (8*n) q)]=40 b [2 (m4 20e4 (8*n) q)] [197 [2 (a+o),0 n,22e8,2e7],50 b.aO (a+o) (a+o+n)=xs,58 P 33 447 [.ei xs] 20e4,58 P 34 105 [2 20e4,0 (8*n),10e7] (m4 20e4 (8*n) q),1<=16777216]:=by revert sh;show 4e3;replace s:=QK s;revert c n q s;show tab3 _ ?_;kernel_rfl
def m_stx(P:PP)(sh:Sh)(b:MB)(k k1:K)(T:0e1)(c n a v o:K)(s:ST c n):94 b [1e5,0e7,12e6] [2 v,0e2] [39e4]=149 b (58,2e7) [jR P 32 459 [2 (a+o),0 n,22e8,2e7] 2e7]:=by revert sh;show 4e3;replace s:=Bb s;revert c n s;show 13e7;kernel_rfl
def m_st(P:PP)(sh:Sh)(h:15e0)(b:MB)(k k1:K)(T:0e1)(c n a v o:K)(s:ST c n):45 [1e5,0e7,12e6] [2 v,0e2] [13e2]=ea (ek sh {b with aO:=bW b.aO (G (a+o)) (G (a+o+n)) ((36e5).aj λi=>280 (pJ n v i))} k1 [] (16 ((36e5).aj λi=> 2 (pJ n v i)))) T
  (197 [2 (a+o),0 n,22e8,2e7]::(((36e5).aj λ(i:I)=>a9 .xo (Builtin.i8 v (Km n)) (8*(i:K))=true)++[(((36e5).aj (pJ n v)).dM (290 (i<256)))=true,b.aO.U+n.aJ<=16777216])):=by
 replace h:=nL h;revert sh h;show 3e1;replace s:=Bb s;revert c n s;show 13e7;kernel_rfl
universe e
section
open PySem PySem.W PyProof.Rows PySem.Calls PySem.Spec PySem.SeqAt
open Builtin hiding id
set_option backward.match.sparseCases false
structure l7(b:MB):Prop where
 m:∀i (f:I->I),(∀j,j<62->f j=j)->f9 f (b.m i)=b.m i
 B:∀f,bQ f b.B=b.B
 T0:∀f,bQ f b.T0=b.T0
 T1:∀f,bQ f b.T1=b.T1
 T2:∀f,bQ f b.T2=b.T2
 no:∀f,bQ f b.no=b.no
 g:∀f,bQ f b.g=b.g
 c2:∀f,cK f b.c2=b.c2
 e0:∀f,cK f b.e0=b.e0
 e1:∀f,cK f b.e1=b.e1
 d0:∀f,cK f b.d0=b.d0
 d1:∀f,cK f b.d1=b.d1
def MB.o9(f:I->I)(b:MB):MB:={b with m:=λi=>f9 f 30e0,B:=bQ f b.B,T0:=bQ f b.T0,T1:=bQ f b.T1,T2:=bQ f b.T2,no:=bQ f b.no,g:=bQ f b.g,c2:=73 b.c2,e0:=73 b.e0,e1:=73 b.e1,d0:=73 b.d0,d1:=73 b.d1}
def MB.Ww{f:I->I}(s:l7 b)(hm:∀i,f9 f 30e0=30e0):b.o9 f=b:=by
 unfold MB.o9;rw[s.B,s.T0,s.T1,s.T2,s.no,s.g,s.c2,s.e0,s.e1,s.d0,s.d1,y8 hm]
def NH(n:I){f:I->I}(s:∀j,j<n->f j=j):(λj=>cC (I.jP j n) j (f j))=f:=y8 λj=>by
 cases h:I.jP j n with
 |true=>exact(s j (I.cz h)).bi
 |false=>rfl
def gn(fW:D I)(n:I):I->I:=λi=>(fW[i]?).ge (n+i)
def kr.sF{fW:D I}{O eW:1e0}{T:0e1}{hT:0e1}(h:fW.aj (λi=>(O[i]?).aj eJ)=eW.aj λo=>G (eJ (f9 (gn fW O.U) o)))(a:fW.dX)(r:∀k v,19 hT=2e4->∃v2,19e1=G v2/\dG v2=dG (cK (gn fW O.U) v)):kr (gn fW O.U) O eW T hT:=by
 have x:fW.U=eW.U:=by
  have:=bC D.U h;simpa using bb
 show⟨λi o e=>?_,λi s=>?_,λi j s b e=>?_,r⟩
 ·have s:=(118 e);have e2:=bC (·[i]?) h;simp only[D.n4,e,ar.td]at e2;rw[D.ie (x▸s)]at e2;simp only[ar.td,ar.G.fv]at e2;have e3:gn fW O.U i=fW[i]'(x▸s):=by unfold gn;rw[D.ie (x▸s)];rfl
  rw[e3];show aN (ar.hh.mp e2) λo2 g1 g2=>?_;exact⟨o2,g1,g2⟩
 ·unfold gn;rw[D.q4 (by exact yr x s)];simp
 ·unfold gn at e;rw[D.ie (x▸s),D.ie (x▸b)]at e;exact(D.getElem_inj a).mp e
def gb.sF{apC:I}{fW:D I}{O eW:1e0}{T:0e1}{hT:0e1}(h:fW.aj (λi=>(O[i]?).aj eJ)=eW.aj λo=>G (eJ (f9 (gn fW O.U) o)))(e:fW.dX)(b:∀k v,19 hT=2e4->∃v2,19e1=G v2/\dG v2=dG (cK (gn fW O.U) v))(x:fW.fI apC=D.dS apC):gb apC O eW T hT (gn fW O.U):=by
 have a:fW.U=eW.U:=by
  have:=bC D.U h;simpa using bb
 have r:apC<=fW.U:=by
  have:=bC D.U x;simp at bb;lia
 show⟨.sF h e b,λi s=>?_,a▸r⟩;have:=bC (·[i]?) x;simp only[D.Nv s,D.uu s]at bb;unfold gn;rw[bb];rfl
def NI(h:n7 d t b apC (62 o) r):n7 d t b apC (62 o') r:=
 λk sc apq B h1 h2 x J aC h0 s Q EE Y e hz a p m apv P=>h k sc apq B h1 h2 x J aC h0 s Q EE Y e hz a p (gQ m) apv P
def LM(O:1e0)(apu:K->fk):Prop:=∀dn o2,n7 38 rU mB 62 ⟨O,8e1,[]⟩ ((apu dn).mZ o2 [])
abbrev MC(sh:Sh)(b:MB)(k:I)(au:0e0)(apu:K->fk):Prop:=LM (ja sh b k au) apu
def Wx{F:MS}:kW F (5 1018):=17e5
def cast1(k:I):(49e1)=(k:K)+1:=H
def l8{k:I}{au:0e0}{s fN:1e0}{o:K->2e1}{ca:6e1}{f:I->I}{apu:K->fk}(dj:∀dn,126 aw 38 mB ⟨ja sh b k au,8e1,o dn⟩= 57 ⟨s,dK (dn+1),[]⟩ ca)(h:13e1)(e:∀dn,gb 62 s fN 8e1 8e1 f)(x:LM fN apu):MC sh b k au (212 (dn+1)):=by
 intro dn o2;exact Wg (QO aw sh b k au dn) (Wf (dj dn) h) (e (dn+1)) λo=>NI (x (dn+1) o2)
def Wy(sh:Sh)(b:MB)(k:K)(au:0e0):62<=(ja sh b k au).U:=by
 cases sh with
 |a=>exact 11e7
 |b s E=>exact I.cz av
def pb{apu:K->fk}(h:MC sh b (k+1) au apu):LM (ja sh b ((k:K)+1) au) apu:=cast1 k▸h
def wc{ca:6e1}(dj:cG aw sh 1e2 k (k+1) bx au 19e4 o=ea O 19e4 ca)(s:13e1):xN aw sh b k bx au O:=iZ dj s Wx
def j3{p q:Prop}(h:p)(s:q):∀x∈ [p,q],x:=24 h s
def kY{p q r:Prop}(h:p)(s:q)(hr:r):∀x∈ [p,q,r],x:=ac h (j3 s hr)
def Wz{k:I}{bx:V}{au b7:0e0}{o:2e1}{ca:6e1}{apu:K->fk}(dj:cG aw sh 1e2 k (k+1) bx au 19e4 o=ea (b1 sh b' (k+1) b7) 19e4 ca)(x:13e1)(hr:m5 b k bx)(hm:iV b' k false)(h:MC sh b' (k+1) b7 apu):MC sh b k au (212 (dn+1)):=by
 have hd:=wc dj x;clear dj;cases sh with
 |a=>exact l8 (λdn=>rW aw .a b b' k dn bx au 55 fD [6e0] b7 []) (kY hr hd hm) (f:=λi=>i) (376 (Wy .a ..)) (pb h)
 |b s E=>exact l8 (λdn=>rW aw (.b s E) b b' k dn bx au 62 s [6e0] b'.g (.au b7::E)) (kY hr hd hm) (f:=λi=>i) (376 (Wy (.b s E) ..)) (pb h)
def NJ(h:j<62):gn (42e9++ex) n j=j:=by
 unfold gn;rw[D.kR (by simpa using h),D.uu h];rfl
def C3{f:I->I}(l:1e0):(l.aj λo=>G (eJ (f9 f o)))=((l.aj (f9 f)).aj λo=>G (eJ o)):=by rw[D.rC];rfl
def all{dn:K}{f:I->I}(s:∀j,j<62->f j=j):∀k v,19 8e1=2e4->∃v2,19 8e1=G v2/\dG v2=dG 15e3:=by
 intro k v e;show⟨v,e,?_⟩;have:=iX e;clear e;simp only[dK,D.eS,kF.mk.fv,D.mq,mr]at bb;rcases bb with⟨_,H⟩|⟨_,H⟩|⟨_,H⟩
 ·exact bC (λv=>dG (.Z v)) (s 51 aq).bi
 ·rfl
 ·rfl
def alm{fW ex:D I}(hs:fW=42e9++ex){O eW:1e0}{dn:K}(x:fW.dX)(h:(∀f:I->I,f=gn fW O.U->(∀j,j<62->f j=j)->fW.aj (λi=>(O[i]?).aj eJ)=((eW.aj (f9 f)).aj λo=>G (eJ o)))):gb 62 O eW 8e1 8e1 (gn fW O.U):=by
 subst hs;show gb.sF ?_ x (all λj s=>NJ s) ?_
 ·rw[C3];exact h _ H λj s=>NJ s
 ·rw[D.take_left' (by simp)]
def nj{ex:D I}(x:(42e9++ex).dX){F:0e0}{n:I}{dn:K}(s:l7 b)(fo:21 F F)(apB apC:MB->0e0->1e0)(e:(apC b F).U=n)
  (h:(42e9++ex).aj (λi=>((apC (b.o9 (gn (42e9++ex) n)) (bQ (gn (42e9++ex) n) F))[i]?).aj eJ)=(((apB b F).aj (f9 (gn (42e9++ex) n))).aj λo=>G (eJ o))):
  gb 62 (apC b F) (apB b F) 8e1 8e1 (gn (42e9++ex) (apC b F).U):=alm H x λf a r=>by
 subst e;rw[fo,MB.Ww s λi=>s.m i _ λj=>NJ]at h;exact a▸h
def aln(h3:15e0)(h:l7 b'){k:I}{bx:V}{au b7:0e0}{o:2e1}{ca:6e1}{apu:K->fk}(hs:21 b7 b7)(dj:cG aw sh 1e2 k (k+1) bx au 19e4 o=ea (ek sh b' (k+1) b7 g) 19e4 ca)(x:13e1)(hr:m5 b k bx)(hm:iV b' k false)(s:MC sh b' (k+1) b7 apu):MC sh b k au (212 (dn+1)):=by
 have hd:=wc dj x;clear dj;rcases h3 with H|rfl|rfl
 ·exact l8 (λdn=>rW aw .a b b' k dn bx au 55 fD [6e0] b7 [g]) (kY hr hd hm) (λdn=>nj (ex:=[]) aq h hs (λB S=>ja .a B (k+1) S) (λB S=>28 55 fD [3e7] (k+1) [6e0] S B [g]) H av) (pb s)
 ·exact l8 (λdn=>rW aw (.b fD []) b b' k dn bx au 62 fD [6e0] b'.g [.au b7,g]) (kY hr hd hm) (λdn=>nj (ex:=[62]) aq h hs (λB S=>ja (.b fD []) B (k+1) S) (λB S=>28 62 fD [3e7] (k+1) [6e0] B.g B [.au S,g]) H av) (pb s)
 ·exact l8 (λdn=>rW aw (.b hj js) b b' k dn bx au 62 hj [6e0] b'.g [.au b7,6e4,6e4,g]) (kY hr hd hm) (λdn=>nj (ex:=[62,63,64]) aq h hs (λB S=>ja (.b hj js) B (k+1) S) (λB S=>28 62 hj [3e7] (k+1) [6e0] B.g B [.au S,6e4,6e4,g]) H av) (pb s)
def C4{o:K->2e1}{ca:6e1}{f:I->I}{apu:K->fk}(e:∀dn,apy aw 9 38 (.t rU) ⟨O,8e1,[]⟩= 125 6e7 ⟨O,8e1,[]⟩)(dj:∀dn,126 aw 38 mB ⟨O,8e1,o dn⟩= 57 ⟨fE,dK (dn+1),[]⟩ ca)(s:13e1)(x:∀dn,gb 62 fE fN 8e1 8e1 f)(h:LM fN apu):LM O (212 (dn+1)):=by
 intro dn o2;exact Wg (e dn) (Wf (dj dn) s) (x (dn+1)) λo=>NI (h (dn+1) o2)
def C5(s:∀dn,apy aw 9 38 (.t rU) ⟨O,8e1,[]⟩= 125 1e9 ⟨O,8e1,[]⟩):LM O (λdn=> 52 O 8e1):=λdn o2=>aj7 (s dn) o2
def alo{n d i:I}{b:15e5}{O e:1e0}{T c gc:0e1}{o1 o2:2e1}{ob:6e1}(h:fU (116 aw n d 12e5 O T o1)= .a8 i ⟨e,c,o2⟩ ob)(o:33e3):aw d 12e5 O T (.a8 i e gc):=by
 have S:=hU d n 12e5 29e2;generalize apy aw n d (.ss b) ⟨O,T,o1⟩=r at h S;cases r with
 |aT a F ob=>cases h
 |no w=>cases h
 |a8 g F app=>
  obtain⟨tc,R,z⟩:=F;cases h;exact λt o4 k sc B l x J s Q EE Y q hz j v P=>S k sc B l x J s Q EE Y q hz j (gQ v) ⟨o,λaC s' u m f apv r=>P.2 aC s' u m (gQ f) apv r⟩
def y9:Sh->Sh
 | .a=> .b fD []
 | .b s E=> .b s E
def fR(sh:Sh)(b:MB)(cO:0e0):MB:=match sh with
 | .a=>{b with g:=cO}
 | .b _ _=>b
def alp(h3:15e0)(h:l7 (fR sh b' cO)){k:I}{bx:V}{au b7:0e0}{o:2e1}{ca:6e1}{apu:K->fk}(hs:21 b7 b7)(dj:cG aw sh 1e2 k (k+1) bx au 19e4 o=ea (vq sh b' (k+1) cO b7 [3e7]) 19e4 ca)(x:13e1)(hr:m5 b k bx)(hm:iV b' k false)(s:MC (y9 sh) (fR sh b' cO) (k+1) b7 apu):MC sh b k au (212 (dn+1)):=by
 have hd:=wc dj x;clear dj;rcases h3 with H|rfl|rfl
 ·exact l8 (λdn=>rW aw .a b b' k dn bx au 62 fD [6e0] cO [.au b7,2e0]) (kY hr hd hm) (λdn=>nj (ex:=[62]) aq h hs (λB S=>ja (.b fD []) B (k+1) S) (λB S=>28 62 fD [3e7] (k+1) [6e0] B.g B [.au S,2e0]) H av) (pb s)
 ·exact l8 (λdn=>rW aw (.b fD []) b b' k dn bx au 63 fD [6e0] b'.g [31e9,.au b7,2e0]) (kY hr hd hm) (λdn=>nj (ex:=[63]) aq h hs (λB S=>ja (.b fD []) B (k+1) S) (λB S=>28 63 fD [3e7] (k+1) [6e0] B.g B [31e9,.au S,2e0]) H av) (pb s)
 ·exact l8 (λdn=>rW aw (.b hj js) b b' k dn bx au 65 hj [6e0] b'.g [31e9,6e4,6e4,.au b7,2e0]) (kY hr hd hm) (λdn=>nj (ex:=[65,63,64]) aq h hs (λB S=>ja (.b hj js) B (k+1) S) (λB S=>28 65 hj [3e7] (k+1) [6e0] B.g B [31e9,6e4,6e4,.au S,2e0]) H av) (pb s)
def WA(h3:15e0){k:I}{bx:V}{au b7:0e0}{C:aI}{dd:0e1}{i:I}{o:2e1}{ca:6e1}(dj:fU (cG aw sh 1e2 k (k+1) bx au 19e4 o)=gy i (139 b' (k+1) b7 C dd) ca)(s:i=(276 (k+1) []).U)(x:13e1)(hr:m5 b k bx):MC sh b k au (λa=> 206 i b' (k+1) b7 C dd []):=by
 have hd:QN aw sh b k bx au i (139 b' (k+1) b7 C dd):=Nz dj x Wx;intro dn o2;have e:=alo (gc:=[]) (add aw sh b k dn bx au i _) (j3 hr hd);have h:62<=(139 b' (k+1) b7 C dd).U:=56e6;show aj6 (QO aw sh b k au dn) e (f:=λi=>i) (.id h) H ?_ ?_ o2
 ·rw[s];exact 56e6
 ·rw[s];clear s h e hd x dj;rcases h3 with H|rfl|rfl<;>exact⟨C,dd,H⟩
def alq{k:I}{bx:V}{au b7:0e0}{o:2e1}{ca:6e1}(dj:cG aw sh 1e2 k (k+1) bx au 19e4 o=ea (Kn sh b' (k+1) b7) 19e4 ca)(x:13e1)(hr:m5 b k bx)(hm:iV b' k true):
  ∃S s h aD,(match(generalizing:=false) sh with| .a=>S=55/\s=fD/\h=b7/\aD=[]| .b k2 E=>S=62/\s=k2/\h=b'.g/\aD= .au b7::E)/\MC sh b k au (λdn=> 52 (28 S s [] (k+1) [] h b' aD) (dK (dn+1))):=by
 have hd:=wc dj x;clear dj;have cR:∀S s h aD,Kn sh b' (k+1) b7=dE S s [3e7] (k+1) [] h true b' aD->MC sh b k au (λdn=> 52 (28 S s [] (k+1) [] h b' aD) (dK (dn+1))):=by
  intro S s h aD e;rw[e]at hd;show l8 (λdn=>adc aw sh b b' k dn bx au S s [] h aD) (kY hr hd hm) (f:=λi=>i) (376 (I.cz av)) (apu:=λdn=> 52 (28 S s [] (k+1) [] h b' aD) 8e1) (C5 λdn=>Bd aw S s (k+1) [] h false b' aD dn)
 clear hd;cases sh with
 |a=>exact⟨_,_,_,_,⟨H,H,H,H⟩,cR _ _ _ _ H⟩
 |b s E=>exact⟨_,_,_,_,⟨H,H,H,H⟩,cR _ _ _ _ H⟩
def alr(h3:15e0)(x:l7 (fR sh b' cO)){k:I}{bx:V}{au:0e0}{o:2e1}{ca:6e1}(dj:cG aw sh 1e2 k (k+1) bx au 19e4 o=ea (xK sh b' (k+1) cO) 19e4 ca)(e:13e1)(hr:m5 b k bx):
  ∃h aD,(h=fD/\aD=[]\/h=hj/\aD=js)/\MC sh b k au (λdn=> 52 (28 62 h [] (k+1) [6e0] (fR sh b' cO).g (fR sh b' cO) (20e1::aD)) (dK (dn+1))):=by
 have hd:=wc dj e;clear dj;rcases h3 with H|rfl|rfl
 ·exact⟨fD,[],.a4 15e2,l8 (λdn=>Kq aw .a b b' k dn bx au 63 fD [6e0] cO [44e0,20e1,2e0]) (j3 hr hd) (λdn=>nj (F:=[]) (ex:=[63]) aq x 45e2 (λB s=>28 62 fD [] (k+1) [6e0] B.g B [20e1]) (λB s=>28 63 fD [] (k+1) [6e0] B.g B [44e0,20e1,2e0]) H av) (apu:=λdn=> 52 (28 62 fD [] (k+1) [6e0] (fR .a b' cO).g (fR .a b' cO) [20e1]) 8e1) (C5 λdn=>Bd aw _ _ _ _ _ _ _ _ dn)⟩
 ·exact⟨fD,[],.a4 15e2,l8 (λdn=>Kq aw (.b fD []) b b' k dn bx au 64 fD [6e0] b'.g [31e9,44e0,20e1,2e0]) (j3 hr hd) (λdn=>nj (F:=[]) (ex:=[64]) aq x 45e2 (λB s=>28 62 fD [] (k+1) [6e0] B.g B [20e1]) (λB s=>28 64 fD [] (k+1) [6e0] B.g B [31e9,44e0,20e1,2e0]) H av) (apu:=λdn=> 52 (28 62 fD [] (k+1) [6e0] b'.g b' [20e1]) 8e1) (C5 λdn=>Bd aw _ _ _ _ _ _ _ _ dn)⟩
 ·exact⟨hj,js,.aE 15e2,l8 (λdn=>Kq aw (.b hj js) b b' k dn bx au 66 hj [6e0] b'.g [31e9,6e4,6e4,44e0,20e1,2e0]) (j3 hr hd) (λdn=>nj (F:=[]) (ex:=[66,63,64]) aq x 45e2 (λB s=>28 62 hj [] (k+1) [6e0] B.g B [20e1,6e4,6e4]) (λB s=>28 66 hj [] (k+1) [6e0] B.g B [31e9,6e4,6e4,44e0,20e1,2e0]) H av) (apu:=λdn=> 52 (28 62 hj [] (k+1) [6e0] b'.g b' [20e1,6e4,6e4]) 8e1) (C5 λdn=>Bd aw _ _ _ _ _ _ _ _ dn)⟩
def NK(s:l7 b){apu:K->fk}(hm:iV b k false)(a:LM (ja (.b hj js) {b with gw:=b.gw+4} ((k:K)+1) [2 (326 fb b.fc)]) apu):LM (mC 0 b ((k:K)+1) [] fa fb) (212 (dn+4)):=by
 rw[show({b with gw:=b.gw+4}:MB)=aG (aG (aG 1e2))from bC (λn=>{b with gw:=n}) (by lia:b.gw+4=b.gw+1+1+1+1)]at a;rw[show(212 (dn+4))=λdn=>apu (dn+1+1+1+1)from y8 λdn=>bC apu bN];have h:∀(jG:K) (b:MB) (au:0e0),62<=(mC jG b ((k:K)+1) au fa fb).U:=λe e e=>I.cz av;have ej:∀{p:Prop},p->∀x∈ [p],x:=λr=>39 r;show C4 (apu:=λdn=>apu (dn+1+1+1)) (λdn=>Bc aw 0 b _ [] fa fb dn) (λdn=>ade aw b _ dn fa fb) (ej aq) (f:=λi=>i) (376 (h 1 _ _)) ?_;show C4 (apu:=λdn=>apu (dn+1+1)) (λdn=>Bc aw 1 1e2 _ _ fa fb dn) (λdn=>adf aw 1e2 _ dn fa fb) (ej aq) (f:=λi=>i) (376 (h 2 _ _)) ?_;show C4 (apu:=λdn=>apu (dn+1)) (λdn=>Bc aw 2 (aG 1e2) _ _ fa fb dn) (λdn=>adg aw (aG 1e2) _ dn fa fb) (j3 (Wk (d:=32)) aq) (f:=λi=>i) (376 (h 3 _ _)) ?_;exact C4 (λdn=>Bc aw 3 _ _ _ fa fb dn) (λdn=>adh aw (aG (aG 1e2)) k dn _ fa fb) (ej hm) (λdn=>nj (b:=aG (aG (aG 1e2))) (F:=[2 (326 fb b.fc)]) (ex:=[62,63,64]) aq ⟨s.m,s.B,s.T0,s.T1,s.T2,s.no,s.g,s.c2,s.e0,s.e1,s.d0,s.d1⟩ 45e2 (λB S=>ja (.b hj js) B ((k:K)+1) S) (λB S=>28 62 hj [3e7] ((k:K)+1) [6e0] B.g B [.au S,6e4,6e4,vp 63 64 67 4 fa fb,vr,2e0]) H av) a
def iz(g:I)(b:MB)(oc:0e0)(en:V)(au apt:0e0):1e0:=match g with
 |1=>dc b apt en au
 |2=>150 {b with T0:=apt} au
 |3=>150 {b with T1:=apt} au
 |_=>150 {b with T2:=apt} au
def G4(g:I):Prop:=g=1\/g=2\/g=3\/g=4
def nk(g:I)(a n s:K)(S w:V):0e1:=[(88,.Z g),(42,0e2),(137,S),(49,0e8),(9,0e3),(58,w)]
def C6:15e5:=match Qi.cX with
 | [_,.mw _ _ b,_]=>b
 |_=>[]
def WB:Tk->al:=λtk=>match tk with
 | .gk _ _ _ _=>true
 |_=>false
def als(P:PP)(d:I)(g:I)(h:G4 g)(b:MB)(oc:0e0)(en:V)(au apt:0e0)(a n s:K)(S w v:V)(k:I):apy P 20 d (.ss C6) ⟨iz g b oc en au apt,nk g a n s S w++[(99,0 k),(60,v)],[]⟩= 57 ⟨iz g b oc en au (apt.cN (a+k).aJ v),nk g a n s S w++[(99,0 k),(60,v)],[]⟩ [bM (0<=a+k/\a+k<apt.U)=true]:=by rcases h with H|rfl|rfl|rfl<;>kernel_rfl
def mv:0e0->I->0e0->0e0
 |apt,_,[]=>apt
 |apt,i,v::r=>mv (apt.cN i v) (i+1) r
def WC(r:0e0):∀(apt:0e0) (i:I),i+r.U<=apt.U->mv apt i r=apt.fI i++r++apt.fi (i+r.U):=by
 induction r with
 |aR=>
  intro apt i h;refine apt=apt.fI i++[]++apt.fi i;rw[D.dZ,D.Jx]
 |aQ v r x=>
  intro apt i h;have s:i<apt.U:=I.mH (I.aiL (I.succ_pos _)) h;refine mv (apt.cN i v) (i+1) r=apt.fI i++v::r++apt.fi (i+(r.U+1));have e1:(apt.cN i v).fI (i+1)=apt.fI i++[v]:=by
   rw[D.take_set,D.take_succ_eq_append_getElem s];rw[D.afu _ _ (by rw[D.qQ];exact I.KX i apt.U),D.qQ,I.NL (I.jz s),I.jl];rfl
  have e2:(apt.cN i v).fi (i+1+r.U)=apt.fi (i+1+r.U):=by
   rw[D.drop_set,eY bN]
  rw[x _ _ (by rw[D.vO,I.TP];exact h),e1,e2,D.eP (apt.fI i),I.TP];rfl
def wd{α:Type}{m:34e7}{k:I}{v:α}{l:34e7}:19 l=2e4->19 (l++m)=2e4:=by
 induction l with
 |aR=>exact nS
 |aQ p l s=>
  intro h;rw[D.NM];rw[nT]at h⊢;cases e:I.bZ p.1 k with
  |true=>rw[e]at h;exact h
  |false=>rw[e]at h;exact s h
def WD{d g:I}(q:G4 g){b:MB}{oc:0e0}{en:V}{au:0e0}{a n s:K}{S w:V}(SL:0e0)(u:0<=a):∀(r:0e0) (k:I) (apt:0e0),SL.fi k=r->a+SL.U<=apt.U->
  aw d (.gk (.t [99,60]) (.gM (.fB SL)) k C6) (iz g b oc en au apt) (nk g a n s S w) (52 (iz g b oc en au (mv apt (a.aJ+k) r)) (nk g a n s S w)):=by
 intro r;induction r with
 |aR=>
  intro k apt e p;show Ny λF=>?_;refine G (SL[k]?.aj λv=>V.X [0 k,v])=G L;have:SL[k]? =L:=by
   have:=bC D.U e;simp at bb;exact D.q4 (by exact D.drop_eq_nil_iff.mp e)
  rw[bb];rfl
 |aQ v r ih=>
  intro k apt e p;have m:SL[k]? =2e4:=by
   have:=bC (·[0]?) e;simpa using bb
  have l:=(118 m);have e2:SL.fi (k+1)=r:=by
   have:=bC D.mm e;simpa [D.tail_drop]using bb
  show y1 (v:= .X [0 k,v]) (pa:=nk g a n s S w++[(99,0 k),(60,v)]) (n9:=iz g b oc en au (apt.cN (a.aJ+k) v)) (oa:=nk g a n s S w) (λF=>?_) (λo=>cI) ?_ ?_
  ·refine G (SL[k]?.aj λv=>V.X [0 k,v])=_;rw[m];rfl
  ·have h:=wb (a3:= 24e4) (f:=λi=>i) (fN:=iz g b oc en au (apt.cN (a+k).aJ v)) (gc:=nk g a n s S w) (als aw d g q b oc en au apt a n s S w v k) (39 (eF bN)) ?_
   ·have e3:(a+k).aJ=a.aJ+k:=by exact K.alt u k
    rw[e3]at h;exact h
   ·show⟨⟨λi o e=>⟨o,e,by rw[uv]⟩,λi h=>h,λi j x x h=>h,λc v2 e=>⟨v2,?_,by rw[n8]⟩⟩,λi x=>rfl,?_⟩
    ·exact wd e
    ·rcases q with H|rfl|rfl|rfl<;>exact I.eD _
  ·have:=ih (k+1) (apt.cN (a.aJ+k) v) e2 (by rw[D.vO];exact p);exact bb
def alu(P:PP)(d g:I)(e:G4 g)(b:MB)(oc:0e0)(en:V)(au apt h:0e0)(a n s:K)(S:0e0)(w:V)(T:0e1):apy P 40 (d+1) (217 [.Z g,0e2,4e5,0e8,0e3,w]) ⟨iz g b oc en au apt,T,[1e9,1e9,.ed WB λx x x=> 52 (iz g b oc en au h) (nk g a n s 4e5 w)]⟩=
  .aT (.v 0e6) ⟨iz g b oc en au h,T,[]⟩ [bM ((S.U:K)<s+n)=false,bM (40e3<a+n)=false,(50 S s (s+n)).U<=16777216,P d (.gk (.t [99,60]) (.gM (.fB (50 S s (s+n)))) 0 C6) (iz g b oc en au apt) (nk g a n s 4e5 w) (52 (iz g b oc en au h) (nk g a n s 4e5 w))]:=by rcases e with H|rfl|rfl|rfl<;>kernel_rfl
def alv(P:PP)(d:I)(b:MB)(oc:0e0)(en:V)(au apt h:0e0)(a n s:K)(w:V)(T:0e1):apy P 40 (d+1) (217 [10e1,0e2,10e1,0e8,0e3,w]) ⟨iz 1 b oc en au apt,T,[1e9,1e9,.ed WB λx x x=> 52 (iz 1 b oc en au h) (nk 1 a n s 10e1 w)]⟩=
  .aT (.v 0e6) ⟨iz 1 b oc en au h,T,[]⟩ [bM (40e3<s+n)=false,bM (40e3<a+n)=false,(50 apt s (s+n)).U<=16777216,P d (.gk (.t [99,60]) (.gM (.fB (50 apt s (s+n)))) 0 C6) (iz 1 b oc en au apt) (nk 1 a n s 10e1 w) (52 (iz 1 b oc en au h) (nk 1 a n s 10e1 w))]:=av
def alw(P:PP)(d g:I)(h:G4 g)(b:MB)(oc:0e0)(en:V)(au apt:0e0)(a n s:K)(S:0e0)(w:V)(T:0e1)(q:al):apy P 40 (d+1) (217 [.Z g,0e2,4e5,0e8,0e3,w]) ⟨iz g b oc en au apt,T,match q with|true=>[6e7]|false=>[1e9,6e7]⟩=
  .aT (.v w) ⟨iz g b oc en au apt,T,[]⟩ (match q with|true=>[bM ((S.U:K)<s+n)=true]|false=>[bM ((S.U:K)<s+n)=false,bM (40e3<a+n)=true]):=by cases q<;>rcases h with H|rfl|rfl|rfl<;>kernel_rfl
def alx(P:PP)(d:I)(b:MB)(oc:0e0)(en:V)(au apt:0e0)(a n s:K)(w:V)(T:0e1)(q:al):apy P 40 (d+1) (217 [10e1,0e2,10e1,0e8,0e3,w]) ⟨iz 1 b oc en au apt,T,match q with|true=>[6e7]|false=>[1e9,6e7]⟩=
  .aT (.v w) ⟨iz 1 b oc en au apt,T,[]⟩ (match q with|true=>[bM (40e3<s+n)=true]|false=>[bM (40e3<s+n)=false,bM (40e3<a+n)=true]):=by cases q<;>kernel_rfl
def NN{i:K}{n:I}(h0:0<=i)(h:i<=n):xr i n=i.aJ:=by
 unfold xr kO;rw[d6 (K.dv.bn h0),K.NL h,K.Lp h0]
def WE{i:K}{n:I}{k:K}(h0:0<=i)(s:0<=k)(h:i+k<=n):vg (G i) n=i.aJ:=NN h0 (K.dV (K.le_add_of_nonneg_right s) h)
def WF{i:K}{n:I}{k:K}(h0:0<=i)(s:0<=k)(h:i+k<=n):xt (G (i+k)) n=i.aJ+k.aJ:=(NN (K.Wo h0 s) h).aV (K.WG h0 s)
def NO{i:K}{n:I}{k:K}(h0:0<=i)(s:0<=k)(h:i+k<=n):i.aJ+k.aJ<=n:=by
 rw[<-K.WG h0 s];exact K.qy.bn h
def mQ{α:Type}(S:8e4){s n:K}(hs:0<=s)(x:0<=n)(h:s+n<=S.U):50 S s (s+n)=(S.fi s.aJ).fI n.aJ/\(50 S s (s+n)).U=n.aJ:=by
 have e:50 S s (s+n)=(S.fi s.aJ).fI n.aJ:=by
  unfold bE;rw[WE hs x h,WF hs x h,I.add_sub_cancel_left]
 show⟨e,?_⟩;rw[e,D.qQ,D.sg];exact I.NL (I.le_sub_of_add_le' (NO hs x h))
def NP{α:Type}(apt m:8e4){a n:K}(x:0<=a)(s:0<=n)(h:a+n<=apt.U)(hm:m.U=n.aJ):205 apt m=apt.fI a.aJ++m++apt.fi (a.aJ+m.U):=by
 unfold bW;rw[WE x s h,WF x s h,I.Lp (I.tS ..),hm]
def WH{a n:K}{l r:I}(x:0<=a)(h:a+n<=l)(s:0<=n)(hr:r=n.aJ):a.aJ+r<=l:=by
 rw[hr,<-K.WG x s];exact K.qy.bn h
def WI{apt S:0e0}{a n s:K}(x:0<=a)(hs:0<=s)(h:0<=n)(b:s+n<=S.U)(h2:a+n<=apt.U):mv apt a.aJ (50 S s (s+n))=234 apt S:=by
 have e:=(mQ S hs h b).2;rw[WC _ _ _ (WH x h2 h e),NP apt _ x h h2 e]
def C7{F:MS}:kW F (5 1420):=17e5
def C8{d g:I}(m:G4 g){b:MB}{oc:0e0}{en:V}{au apt S:0e0}{a n s:K}{t t2:al}{w:V}{T:0e1}(e:0<=a)(hs:0<=s)(x:0<=n)(h:s+n<=S.U)(h2:a+n<=apt.U)(v:106 n):
  123 (d+1) (217 [.Z g,0e2,.ad S t,.y s t2,0e3,w]) (iz g b oc en au apt) T 0e6 (iz g b oc en au (234 apt S)) T:=by
 have k:=(mQ S hs x h).2;show uw (as:=[.Z g,0e2,4e5,0e8,0e3,w]) (λp p p r=>v9 cI r) (iZ (alu aw d g m b oc en au apt _ a n s S w T) (25 (127 h) (127 h2) ?_ ?_) C7)
 ·rw[k];exact K.qy.bn v
 ·rw[<-WI e hs x h h2];have:=WD (d:=d) m (b:=b) (oc:=oc) (en:=en) (au:=au) (a:=a) (n:=n) (s:=s) (S:= 4e5) (w:=w) (50 S s (s+n)) e _ 0 apt H (by rw[k];lia);exact bb
def aly{d:I}{b:MB}{oc:0e0}{en:V}{au apt:0e0}{a n s:K}{w:V}{T:0e1}(e:0<=a)(hs:0<=s)(x:0<=n)(h:s+n<=apt.U)(h2:a+n<=apt.U)(p:106 n):
  123 (d+1) (217 [10e1,0e2,10e1,0e8,0e3,w]) (dc b apt en au) T 0e6 (dc b (234 apt apt) en au) T:=by
 have r:=(mQ apt hs x h).2;show iZ (alv aw d b oc en au apt _ a n s w T) (25 (127 h) (127 h2) ?_ ?_) C7
 ·rw[r];exact K.qy.bn p
 ·rw[<-WI e hs x h h2];exact WD (d:=d) 2e6 (b:=b) (oc:=oc) (en:=en) (au:=au) (a:=a) (n:=n) (s:=s) (S:= 10e1) (w:=w) (50 apt s (s+n)) e _ 0 apt H (by rw[r];lia)
def we{d g:I}(k:G4 g){b:MB}{oc:0e0}{en:V}{au apt S:0e0}{a n s:K}{t t2:al}{w:V}{T:0e1}(h:¬(s+n<=S.U/\a+n<=apt.U)):
  123 (d+1) (217 [.Z g,0e2,.ad S t,.y s t2,0e3,w]) (iz g b oc en au apt) T w (iz g b oc en au apt) T:=by
 show uw (as:=[.Z g,0e2,4e5,0e8,0e3,w]) (λe e e r=>v9 cI r) (iZ (alw aw d g k b oc en au apt a n s S w T (decide ((S.U:K)<s+n))) (λp x=>?_) C7)
 ·by_cases q:(S.U:K)<s+n
  ·rw[eF q]at x;exact ac H a5 p x
  ·rw[fY q]at x;exact ac H (39 (eF bN)) p x
def WJ{d:I}{b:MB}{oc:0e0}{en:V}{au apt:0e0}{a n s:K}{w:V}{T:0e1}(h:¬(s+n<=apt.U/\a+n<=apt.U)):
  123 (d+1) (217 [10e1,0e2,10e1,0e8,0e3,w]) (dc b apt en au) T w (dc b apt en au) T:=by
 show iZ (alx aw d b oc en au apt a n s w T (decide (40e3<s+n))) (λp x=>?_) C7;by_cases q:40e3<s+n
 ·rw[eF q]at x;exact ac H a5 p x
 ·rw[fY q]at x;exact ac H (39 (eF bN)) p x
universe e
section
open PySem PySem.W
set_option backward.match.sparseCases false
def WK(P:PP)(b:MB)(T:0e1)(n:K)(aD:0e0):179 [5e8,0e3] aD=46 b (2 (n.ah 4294967296)::aD) [9 n 4294967296=true,aD.U+1<=16777216]:=av
def alz(P:PP)(b:MB)(T:0e1)(n:K)(aD:0e0):179 [21e4,0e3] aD=46 b (2 (n.ah 18446744073709551616)::aD) [361 n=true,aD.U+1<=16777216]:=av
def alA(P:PP)(b:MB)(T:0e1)(n:K)(aD:0e0):179 [0 208,0e3] aD=46 b (0e6::aD) 25e2:=av
def alB(P:PP)(b:MB)(T:0e1)(n v:K)(aD:0e0):55 [0 210,0e3] aD [.v (0 v)]=46 b (0 v::aD) [(dq [1e3,1e8,0e7,10e8,3e8,3e4] n)=G (0 v),aD.U+1<=16777216]:=av
def alC(P:PP)(b:MB)(T:0e1)(aD:0e0):179 [28e8,0e7] aD=46 b (0 9::aD) 25e2:=av
def alD(P:PP)(b:MB)(T:0e1)(aD:0e0):179 [43e0] (0e6::aD)=46 b (1e3::aD) 25e2:=av
def alE(P:PP)(b:MB)(T:0e1)(v:K)(aD:0e0):179 [43e0] (0 v::aD)=46 b (0e7::aD) 25e2:=av
def alF(P:PP)(b:MB)(T:0e1)(aD:0e0):179 [16e3,0e7] aD=46 b (31e2::aD) 25e2:=av
def alG(P:PP)(b:MB)(T:0e1)(aD:0e0):179 [16e3,1e3] aD=46 b (31e1::aD) 25e2:=av
def alH(P:PP)(b:MB)(T:0e1)(aD:0e0):179 [16e3,1e8] aD=46 b (b.c2::aD) 25e2:=av
def alI(P:PP)(b:MB)(T:0e1)(v:K)(aD:0e0):179 [21e3,0e7] (2 v::aD)=46 {b with c0:=v} aD []:=av
def alJ(P:PP)(b:MB)(T:0e1)(v:K)(aD:0e0):179 [21e3,1e3] (2 v::aD)=46 {b with c1:=v} aD []:=av
def alK(P:PP)(b:MB)(T:0e1)(v:V)(aD:0e0):179 [21e3,1e8] (v::aD)=46 {b with c2:=v} aD []:=av
def alL(P:PP)(b:MB)(T:0e1):55 [0 63] [] [1e9]=202 b (4e2++[]) [2 ((41e4).aL 16)] T [15 41e4 16=true,bM ((2:K)<(((41e4).aL 16)+0))=false,((4e2++[])).U<=16777216,1<=16777216]:=av
def alM(P:PP)(b:MB)(T:0e1)(n:K):55 [17e2] [0e3] [6e7]=46 b [44e6] [15 41e4 16=true,bM ((2:K)<(((41e4).aL 16)+n))=true,1<=16777216]:=av
def alN(P:PP)(b:MB)(T:0e1)(n:K):55 [17e2] [0e3] [1e9]=202 b (4e2++(411 (n*16))) [2 ((41e4).aL 16)] T [15 41e4 16=true,bM ((2:K)<(((41e4).aL 16)+n))=false,a9 .f4 n 16=true,jO (n*16)=true,((411 (n*16))).U<=16777216,((4e2++(411 (n*16)))).U<=16777216,1<=16777216]:=av
def alO(P:PP)(b:MB)(T:0e1)(n s a:K):55 [16e1] [0e3,0e8,0e2] [269 2e7 b]=151 2e7 b [] T [9 s 256=true,jO n=true,(47e7).U<=16777216,P 37 (217 [10e1,0e2,49e7,0e7,0e3,2e7]) 35e6 [(98,6e3),(131,.X [16e1]),(132,10e6),(6,16e1),(113,8 [13e4,13e5,13e6]),(9,0e3),(139,0e8),(42,0e2),(137,49e7),(49,0e7)] (36 2e7 35e6 [(98,6e3),(131,.X [16e1]),(132,10e6),(6,16e1),(113,8 [13e4,13e5,13e6]),(9,0e3),(139,0e8),(42,0e2),(137,49e7),(49,0e7)])]:=av
def alP(P:PP)(b:MB)(T:0e1)(n s a:K):55 [16e1] [0e3,0e8,0e2] [406 (85 b (bW 4e2 (G a) (G (a+n)) (50 47e7 0 ((0:K)+n))) [])]=202 b (bW 4e2 (G a) (G (a+n)) (50 47e7 0 ((0:K)+n))) [] T [9 s 256=true,jO n=true,(47e7).U<=16777216,P 37 (217 [10e1,0e2,49e7,0e7,0e3,2e7]) 35e6 [(98,6e3),(131,.X [16e1]),(132,10e6),(6,16e1),(113,8 [13e4,13e5,13e6]),(9,0e3),(139,0e8),(42,0e2),(137,49e7),(49,0e7)] (36 0e6 (85 b (bW 4e2 (G a) (G (a+n)) (50 47e7 0 ((0:K)+n))) []) [(98,6e3),(131,.X [16e1]),(132,10e6),(6,16e1),(113,8 [13e4,13e5,13e6]),(9,0e3),(139,0e8),(42,0e2),(137,49e7),(49,0e7)])]:=av
def WL(P:PP)(b:MB)(T:0e1)(n s a:K):55 [20e8] [0e3,0e8,0e2] [269 2e7 b]=151 2e7 b [] T [P 37 (217 [10e1,0e2,10e1,0e8,0e3,2e7]) 35e6 [(98,6e3),(131,.X [20e8]),(132,10e6),(6,20e8),(113,8 [13e4,13e5,13e6]),(9,0e3),(139,0e8),(42,0e2),(137,10e1),(49,0e8)] (36 2e7 35e6 [(98,6e3),(131,.X [20e8]),(132,10e6),(6,20e8),(113,8 [13e4,13e5,13e6]),(9,0e3),(139,0e8),(42,0e2),(137,10e1),(49,0e8)])]:=av
def alQ(P:PP)(b:MB)(T:0e1)(n s a:K):55 [20e8] [0e3,0e8,0e2] [406 (85 b (246 4e2) [])]=202 b (246 4e2) [] T [P 37 (217 [10e1,0e2,10e1,0e8,0e3,2e7]) 35e6 [(98,6e3),(131,.X [20e8]),(132,10e6),(6,20e8),(113,8 [13e4,13e5,13e6]),(9,0e3),(139,0e8),(42,0e2),(137,10e1),(49,0e8)] (36 0e6 (85 b (246 4e2) []) [(98,6e3),(131,.X [20e8]),(132,10e6),(6,20e8),(113,8 [13e4,13e5,13e6]),(9,0e3),(139,0e8),(42,0e2),(137,10e1),(49,0e8)])]:=av
def WM(P:PP)(b:MB)(T:0e1)(i:K)(h:16e0)(n s a:K)(dt:4e9):264 P 23e2 [8e6,6e5] [0e3,0e8,0e2] [6e7,269 2e7 23e2]=151 2e7 23e2 [] T [(!(dt).jN)=true,mF P (119 23e2) (119 23e2) 2e7 [10e1,0e2,6 45e7,0e8,0e3,2e7] [(98,6e3),(131,.X [8e6,6e5]),(132,10e6),(6,8e6),(113,8 [13e4,13e5,13e6]),(9,0e3),(139,0e8),(42,0e2),(137,6 45e7),(49,0e8)]]:=by replace h:=mD h;revert i h;show 3e1;kernel_rfl
def alR(P:PP)(b:MB)(T:0e1)(i:K)(h:16e0)(n s a:K)(dt:4e9):264 P 23e2 [8e6,6e5] [0e3,0e8,0e2] [6e7,406 (85 23e2 (246 45e7) [])]=202 23e2 (246 45e7) [] T [(!(dt).jN)=true,mF P (119 23e2) (85 23e2 (246 45e7) []) 0e6 [10e1,0e2,6 45e7,0e8,0e3,2e7] [(98,6e3),(131,.X [8e6,6e5]),(132,10e6),(6,8e6),(113,8 [13e4,13e5,13e6]),(9,0e3),(139,0e8),(42,0e2),(137,6 45e7),(49,0e8)]]:=by replace h:=mD h;revert i h;show 3e1;kernel_rfl
def WN(P:PP)(b:MB)(T:0e1)(i:K)(h:16e0)(n s a:K):264 P 19e8 [8e6,6e5] [0e3,0e8,0e2] [269 2e7 19e8]=151 2e7 19e8 [] T [mF P (119 19e8) (119 19e8) 2e7 [10e1,0e2,40e7,0e8,0e3,2e7] [(98,6e3),(131,.X [8e6,6e5]),(132,10e6),(6,8e6),(113,8 [13e4,13e5,13e6]),(9,0e3),(139,0e8),(42,0e2),(137,40e7),(49,0e8)]]:=by replace h:=mD h;revert i h;show 3e1;kernel_rfl
def alS(P:PP)(b:MB)(T:0e1)(i:K)(h:16e0)(n s a:K):264 P 19e8 [8e6,6e5] [0e3,0e8,0e2] [406 (85 19e8 (246 27e2) [])]=202 19e8 (246 27e2) [] T [mF P (119 19e8) (85 19e8 (246 27e2) []) 0e6 [10e1,0e2,40e7,0e8,0e3,2e7] [(98,6e3),(131,.X [8e6,6e5]),(132,10e6),(6,8e6),(113,8 [13e4,13e5,13e6]),(9,0e3),(139,0e8),(42,0e2),(137,40e7),(49,0e8)]]:=by replace h:=mD h;revert i h;show 3e1;kernel_rfl
def alT(P:PP)(b:MB)(T:0e1)(i:K)(s:16e0):179 [48e7,6e5] []=46 19e8 [] []:=by replace s:=mD s;revert i s;show 3e1;kernel_rfl
def alU(P:PP)(b:MB)(T:0e1)(t:K)(s:7e3)(a:K)(v:V):55 [38e1,1e1] [0e2] [6e7]=151 3e9 b [] T [bM (5e2<=a)=true]:=by replace s:=20e6;revert t s;show 3e1;kernel_rfl
def alV(P:PP)(b:MB)(T:0e1)(t:K)(s:7e3)(a:K)(v:V):55 [38e1,1e1] [0e2] [1e9,.v v]=46 b [v] [bM (5e2<=a)=false,16e4=2e4,1<=16777216]:=by replace s:=20e6;revert t s;show 3e1;kernel_rfl
def alW(P:PP)(b:MB)(T:0e1)(t:K)(s:7e3)(a:K)(v:V):55 [0 38,1e1] [v,0e2] [6e7]=151 3e9 b [] T [bM (5e2<=a)=true]:=by replace s:=20e6;revert t s;show 3e1;kernel_rfl
def alX(P:PP)(b:MB)(T:0e1)(t:K)(s:7e3)(a:K)(v:V):55 [0 38,1e1] [v,0e2] [1e9]=46 (227 (D.cN 10e3 (a).aJ v)) [] [bM (5e2<=a)=false,bM (0<=a/\a<5e2)=true]:=by replace s:=20e6;revert t s;show 3e1;kernel_rfl
def alY(P:PP)(b:MB)(T:0e1)(t:K)(s:7e3):179 [48e8,1e1] []=46 b [20e9] (287 1):=by replace s:=20e6;revert t s;show 3e1;kernel_rfl
def alZ(P:PP)(b:MB)(T:0e1)(t:K)(s:7e3)(n:K)(v:V):55 [39e2,1e1] [0e3,v] [6e7]=46 b [44e6] [15 5e2 1=true,bM (lm t<(((5e2).aL 1)+n))=true,1<=16777216]:=by replace s:=20e6;revert t s;show 3e1;kernel_rfl
def al0(P:PP)(b:MB)(T:0e1)(t:K)(s:7e3)(n:K)(v:V):55 [39e2,1e1] [0e3,v] [1e9]=46 (227 (10e3++(403 (n*1)))) [2 ((5e2).aL 1)] [15 5e2 1=true,bM (lm t<(((5e2).aL 1)+n))=false,a9 .f4 n 1=true,jO (n*1)=true,((403 (n*1))).U<=16777216,((10e3++(403 (n*1)))).U<=16777216,1<=16777216]:=by replace s:=20e6;revert t s;show 3e1;kernel_rfl
def al1(P:PP)(b:MB)(T:0e1)(t:K)(s:7e3)(n a:K)(v:V):55 [33e6,1e1] [0e3,v,0e2] [6e7]=151 3e9 b [] T [bM (5e2<(a+n))=true]:=by replace s:=20e6;revert t s;show 3e1;kernel_rfl
def al2(P:PP)(b:MB)(T:0e1)(t:K)(s:7e3)(n a:K)(v:V):55 [33e6,1e1] [0e3,v,0e2] [1e9,269 0e6 (227 (bW 10e3 (G a) (G (a+n)) (50 35e7 0 ((0:K)+n))))]=46 (227 (bW 10e3 (G a) (G (a+n)) (50 35e7 0 ((0:K)+n)))) [] [bM (5e2<(a+n))=false,jO n=true,(35e7).U<=16777216,mF P 35e6 (119 (227 (bW 10e3 (G a) (G (a+n)) (50 35e7 0 ((0:K)+n))))) 0e6 [.Z (t.aJ+2),0e2,6 35e7,0e7,0e3,.ag Qf] [(98,6e3),(131,.X [33e6,1e1]),(132,10e6),(6,33e6),(113,8 [13e4,13e5,13e6]),(9,0e3),(139,v),(42,0e2),(88,.Z (t.aJ+2))]]:=by replace s:=20e6;revert t s;show 3e1;kernel_rfl
def WO(P:PP)(b:MB)(T:0e1)(x app:K)(h:CP x app)(n s a:K):55 [28e5,0 x,17e1] [0e3,0e8,0e2] [269 3e9 b]=151 3e9 b [] T [(18e5).U<=16777216,mF P 35e6 35e6 3e9 [.Z (x.aJ+2),0e2,6 18e5,0e8,0e3,3e9] [(98,6e3),(131,.X [28e5,0 x,17e1]),(132,10e6),(6,28e5),(113,8 [13e4,13e5,13e6]),(9,0e3),(139,0e8),(42,0e2),(88,.Z (x.aJ+2)),(137,6 18e5)]]:=by replace h:=xM h;revert x app h;show 13e7;kernel_rfl
def al3(P:PP)(b:MB)(T:0e1)(x app:K)(h:CP x app)(n s a:K):55 [28e5,0 x,17e1] [0e3,0e8,0e2] [269 0e6 (b.e6 x (234 (b.tb x) 18e5))]=46 (b.e6 x (234 (b.tb x) 18e5)) [] [(18e5).U<=16777216,mF P 35e6 (119 (b.e6 x (234 (b.tb x) 18e5))) 0e6 [.Z (x.aJ+2),0e2,6 18e5,0e8,0e3,3e9] [(98,6e3),(131,.X [28e5,0 x,17e1]),(132,10e6),(6,28e5),(113,8 [13e4,13e5,13e6]),(9,0e3),(139,0e8),(42,0e2),(88,.Z (x.aJ+2)),(137,6 18e5)]]:=by replace h:=xM h;revert x app h;show 13e7;kernel_rfl
def WP(P:PP)(b:MB)(T:0e1)(e t:K)(h:IN e t)(n s a:K)(dt:0e0):264 P 23e3 [8e7,11e5,1e1] [0e3,0e8,0e2] [6e7,269 3e9 23e3]=151 3e9 23e3 [] T [(!(dt).jN)=true,dt.U<=16777216,mF P (119 23e3) (119 23e3) 3e9 [.Z (t.aJ+2),0e2,6 dt,0e8,0e3,3e9] [(98,6e3),(131,.X [8e7,11e5,1e1]),(132,10e6),(6,8e7),(113,8 [13e4,13e5,13e6]),(9,0e3),(139,0e8),(42,0e2),(88,.Z (t.aJ+2)),(137,6 dt)]]:=by replace h:=pM h;revert e t h;show 13e7;kernel_rfl
def al4(P:PP)(b:MB)(T:0e1)(e t:K)(h:IN e t)(n s a:K)(dt:0e0):264 P 23e3 [8e7,11e5,1e1] [0e3,0e8,0e2] [6e7,269 0e6 ((23e3).e6 t (320 dt))]=46 ((23e3).e6 t (320 dt)) [] [(!(dt).jN)=true,dt.U<=16777216,mF P (119 23e3) (119 ((23e3).e6 t (320 dt))) 0e6 [.Z (t.aJ+2),0e2,6 dt,0e8,0e3,3e9] [(98,6e3),(131,.X [8e7,11e5,1e1]),(132,10e6),(6,8e7),(113,8 [13e4,13e5,13e6]),(9,0e3),(139,0e8),(42,0e2),(88,.Z (t.aJ+2)),(137,6 dt)]]:=by replace h:=pM h;revert e t h;show 13e7;kernel_rfl
def WQ(P:PP)(b:MB)(T:0e1)(e t:K)(h:IN e t)(n s a:K):264 P 23e8 [8e7,11e5,1e1] [0e3,0e8,0e2] [269 3e9 23e8]=151 3e9 23e8 [] T [mF P (119 23e8) (119 23e8) 3e9 [.Z (t.aJ+2),0e2,11e0,0e8,0e3,3e9] [(98,6e3),(131,.X [8e7,11e5,1e1]),(132,10e6),(6,8e7),(113,8 [13e4,13e5,13e6]),(9,0e3),(139,0e8),(42,0e2),(88,.Z (t.aJ+2)),(137,11e0)]]:=by replace h:=pM h;revert e t h;show 13e7;kernel_rfl
def al5(P:PP)(b:MB)(T:0e1)(e t:K)(h:IN e t)(n s a:K):264 P 23e8 [8e7,11e5,1e1] [0e3,0e8,0e2] [269 0e6 ((23e8).e6 t 49e9)]=46 ((23e8).e6 t 49e9) [] [mF P (119 23e8) (119 ((23e8).e6 t 49e9)) 0e6 [.Z (t.aJ+2),0e2,11e0,0e8,0e3,3e9] [(98,6e3),(131,.X [8e7,11e5,1e1]),(132,10e6),(6,8e7),(113,8 [13e4,13e5,13e6]),(9,0e3),(139,0e8),(42,0e2),(88,.Z (t.aJ+2)),(137,11e0)]]:=by replace h:=pM h;revert e t h;show 13e7;kernel_rfl
def al6(P:PP)(b:MB)(T:0e1)(i:K)(s:16e0):179 [48e9,6e5] []=46 (b.fC i 0e6) [] []:=by replace s:=mD s;revert i s;show 3e1;kernel_rfl
def al7(P:PP)(b:MB)(T:0e1)(fa s:K):c7 (df P b 3 (.X [4e0,3e8]) [0e8,13e3] T [])=46 {b with gw:=(b.gw+4)} [362 (s+b.fc)] [361 (s+b.fc)=true,1<=16777216]:=av
def al8(P:PP)(b:MB)(T:0e1)(fa s:K):c7 (df P b 1 (.X [4e0,3e8]) [0e8,13e3] T [])=c6 0e6 (ad b (.X [25e3,14e5]) [0e8,13e3]) T []:=av
def al9(P:PP)(b:MB)(T:0e1)(c q a t:K)(s:vo c)(h:19e3)(aD:0e0):55 [1e5,10e7,1e1] (0e2::aD) [6e7]=151 (.ag xj) b aD T [bM (5e2<=a)=true]:=by replace h:=pL h;revert t h;show 3e1;replace s:=A8 s;revert c s;show 3e1;kernel_rfl
def ama(P:PP)(b:MB)(T:0e1)(c q a t:K)(s:vo c)(h:19e3)(aD:0e0):55 [1e5,10e7,1e1] (0e2::aD) [1e9,.v 0e6]=151 (.ag xk) b aD T [bM (5e2<=a)=false,16e4=G 0e6]:=by replace h:=pL h;revert t h;show 3e1;replace s:=A8 s;revert c s;show 3e1;kernel_rfl
def amb(P:PP)(b:MB)(T:0e1)(c q a t app:K)(s:vo c)(x:Q3 q)(h:19e3)(r:Y6 app)(e:31e3≠q)(aD:0e0):55 [1e5,10e7,1e1] (0e2::aD) [1e9,37e2,37e2]=151 (.ag xm) b aD T [bM (5e2<=a)=false,16e4=34e2,16e4=34e2]:=by replace h:=pL h;revert t h;show 3e1;replace s:=A8 s;revert c s;show 3e1;replace x:=QM x r e;clear e r;revert q app x;show 13e7;kernel_rfl
def WR(P:PP)(b:MB)(T:0e1)(c a t app:K)(h:vo c)(x:19e3)(s:app=0\/app=2)(v:V):55 [1e5,49e5,1e1] [0e2,v] [1e9,37e2,37e2,37e2]=46 {b with nl:=(b.nl++[.X [49e5,8 [v]]])} [] [bM (5e2<=a)=false,16e4=34e2,16e4=34e2,16e4=34e2,b.nl.U+1<=16777216]:=by replace x:=pL x;revert t x;show 3e1;replace h:=A8 h;revert c h;show 3e1;replace s:=pL s;revert app s;show 3e1;kernel_rfl
def amc(P:PP)(b:MB)(T:0e1)(a fa s t:K)(x:19e3)(h:b.apr=3):55 [4e1,3e8,1e1] [0e2,0e8,13e3] [1e9,.v 3e4,.v 3e4,.v 3e4]=46 {b with gw:=(b.gw+4)} [362 (s+b.fc)] [bM (5e2<=a)=false,16e4=G 3e4,16e4=G 3e4,16e4=G 3e4,361 (s+b.fc)=true,1<=16777216]:=by rw[h];rcases x with H|rfl<;>kernel_rfl
def amd(P:PP)(b:MB)(T:0e1)(a fa s t:K)(x:19e3)(h:b.apr=1):55 [4e1,3e8,1e1] [0e2,0e8,13e3] [1e9,.v 3e4,.v 3e4,.v 3e4]=c6 0e6 (ad b (.X [25e3,14e5]) [0e8,13e3]) T [bM (5e2<=a)=false,16e4=G 3e4,16e4=G 3e4,16e4=G 3e4]:=by rw[h];rcases x with H|rfl<;>kernel_rfl
def ame(P:PP)(b:MB)(T:0e1)(f:K)(s:f=1\/f=2\/f=3\/f=4)(v:V):179 [4e0,0 f] [v]=46 {b with nl:=(b.nl++[.X [0 f,8 [v]]])} [] [b.nl.U+1<=16777216]:=by replace s:=QJ s;revert f s;show 3e1;kernel_rfl
def NQ(n:K)(x:I->be)(s:2e1):2e1:= 1e9::((36e5).aj (λi=>cq.v (2 ((x i).aJ:K)))++s)
def smB(n:K)(x:I->be):K:=((36e5).aj λi=>((x i).aJ:K)*256^i).lh
def za(n:K)(b:MB)(p:K)(x:I->be):6e1:=(decide (53e7<p+n)=false)::(36e5).tN λ(i:I)=>[dq 4e2 (p+i)=G (2 ((x i).aJ:K)),a9 .f4 ((x i).aJ:K) (256^i)=true]
def zb(n:K)(b:MB)(p v:K)(m:I):0e0:=(D.dS m).i9 (λl (i:I)=>D.cN l (p+i).aJ (38 (v.aL (256^i)) 256)) 4e2
def amf(P:PP)(b:MB)(T:0e1)(c n a o:K)(s:LU c n\/∃q,LS c n q):55 [1e5,0e7,12e6] [0e2] [6e7]=151 2e7 b [] T [bM (53e7<a+o+n)=true]:=by replace s:=QL s;revert c n s;show 13e7;kernel_rfl
def amg(P:PP)(b:MB)(T:0e1)(c n a o:K)(x:I->be)(s:LU c n):55 [1e5,0e7,12e6] [0e2] (NQ n x [])=46 b [2 (smB n x)] (za n b (a+o) x++(287 1)):=by replace s:=Ko s;revert c n s;show 13e7;kernel_rfl
def LW(c n q w h m:K):Prop:=c=44/\n=1/\q=32/\w=256/\h=128/\m=4294967296\/c=48/\n=1/\q=64/\w=256/\h=128/\m=18446744073709551616\/c=46/\n=2/\q=32/\w=65536/\h=32768/\m=4294967296\/c=50/\n=2/\q=64/\w=65536/\h=32768/\m=18446744073709551616\/c=52/\n=4/\q=64/\w=4294967296/\h=2147483648/\m=18446744073709551616
def LWl:D 56e1:=[(44,1,32,256,128,4294967296),(48,1,64,256,128,18446744073709551616),(46,2,32,65536,32768,4294967296),(50,2,64,65536,32768,18446744073709551616),(52,4,64,4294967296,2147483648,18446744073709551616)]
def WS(s:LW c n q w h m):(c,n,q,w,h,m)∈LWl:=by
 rcases s with⟨H,H,H,H,H,H⟩|⟨H,H,H,H,H,H⟩|⟨H,H,H,H,H,H⟩|⟨H,H,H,H,H,H⟩|⟨H,H,H,H,H,H⟩<;>decide
def WT{β:Type}(apu:K->K->K->K->K->K->β)(p:56e1):β:=apu p.1 p.2.1 p.2.2.1 p.2.2.2.1 p.2.2.2.2.1 p.2.2.2.2.2
def WU{β:Type}{apu apx:K->K->K->K->K->K->β}(l:D 56e1)(h:l.aj (WT apu)=l.aj (WT apx)):∀a b c d e f,(a,b,c,d,e,f)∈l->apu a b c d e f=apx a b c d e f:=λs s s s s s=>D.gH.mp h _
def amh(P:PP)(b:MB)(T:0e1)(c n q w h m a o:K)(x:I->be)(s:LW c n q w h m):55 [1e5,0e7,12e6] [0e2] (NQ n x [6e7])=46 b [2 (smB n x-w+m)] (za n b (a+o) x++[bM (h<=smB n x)=true,1<=16777216]):=by replace s:=WS s;revert c n q w h m s;show WU _ ?_;kernel_rfl
def ami(P:PP)(b:MB)(T:0e1)(c n q w h m a o:K)(x:I->be)(s:LW c n q w h m):55 [1e5,0e7,12e6] [0e2] (NQ n x [1e9])=46 b [2 (smB n x)] (za n b (a+o) x++[bM (h<=smB n x)=false,1<=16777216]):=by replace s:=WS s;revert c n q w h m s;show WU _ ?_;kernel_rfl
def amj(P:PP)(b:MB)(T:0e1)(c n a v o:K)(s:ST c n):55 [1e5,0e7,12e6] [2 v,0e2] [6e7]=151 2e7 b [] T [bM (53e7<a+o+n)=true]:=by replace s:=Bb s;revert c n s;show 13e7;kernel_rfl
def amk(P:PP)(b:MB)(T:0e1)(c n a v o:K)(s:ST c n):55 [1e5,0e7,12e6] [2 v,0e2] [1e9]=202 b (zb n b (a+o) v n.aJ) [] T ((decide (53e7<a+o+n)=false)::(36e5).tN λ(i:I)=>[15 v (256^i)=true,9 (v.aL (256^i)) 256=true,bM (0<=a+o+i/\a+o+i<((zb n b (a+o) v i).U:K))=true]):=by replace s:=Bb s;revert c n s;show 13e7;kernel_rfl
universe e
section
open PySem PySem.W PyProof.Rows PySem.Calls PySem.Spec PySem.SeqAt
open Builtin hiding id
set_option backward.match.sparseCases false
def R.aT.fv{α:Type}(a:α)(F:MS)(ob:D Ob)(s:α)(e:MS)(b:D Ob):(R.aT a F ob=R.aT s e b)=(a=s/\F=e/\ob=b):=qV (424 ⟨x,app,z⟩ h.1)
def MS.mk.fv(o:1e0)(l:0e1)(r:2e1)(o':1e0)(s:0e1)(e:2e1):(MS.mk o l r=MS.mk o' s e)=(o=o'/\l=s/\r=e):=qV (424 ⟨x,app,z⟩ h.1)
def aml(h3:15e0){cO:0e0}(h:l7 (fR sh b' cO)){k:I}{bx:V}{au:0e0}{fa s:K}{o:2e1}{ca:6e1}{apu:K->fk}(dj:cG aw sh 1e2 k (k+1) bx au 19e4 o=ea (pK sh b' (k+1) cO fa s true) 19e4 ca)(e:13e1)(hr:m5 b k bx)(hm:iV b' k false)
  (IH:MC (.b hj js) {fR sh b' cO with gw:=b'.gw+4} (k+1) [2 (326 s b'.fc)] apu):MC sh b k au (212 (dn+1+4)):=by
 have hd:=wc dj e;clear dj;rcases h3 with H|rfl|rfl
 ·exact l8 (apu:=λdn=>apu (dn+4)) (λdn=>Kr aw .a 2e6 b b' k dn bx au cO fa s) (j3 hr hd) (λdn=>nj (F:=[]) (ex:=[63,64,65,67,68,69]) aq h 45e2 (λB x=>mC 0 B (k+1) [] fa s) (λB x=>pK .a B (k+1) B.g fa s false) H av) (NK h hm (pb IH))
 ·exact l8 (apu:=λdn=>apu (dn+4)) (λdn=>Kr aw (.b fD []) 15e6 b b' k dn bx au cO fa s) (j3 hr hd) (λdn=>nj (F:=[]) (ex:=[64,65,66,68,69,70]) aq h 45e2 (λB x=>mC 0 B (k+1) [] fa s) (λB x=>pK (.b fD []) B (k+1) cO fa s false) H av) (NK h hm (pb IH))
 ·exact l8 (apu:=λdn=>apu (dn+4)) (λdn=>Kr aw (.b hj js) (79 H) b b' k dn bx au cO fa s) (j3 hr hd) (λdn=>nj (F:=[]) (ex:=[66,63,64,67,68,69]) aq h 45e2 (λB x=>mC 0 B (k+1) [] fa s) (λB x=>pK (.b hj js) B (k+1) cO fa s false) H av) (NK h hm (pb IH))
structure oh(b:MB):Prop where
 m:∀i (f:I->I),(∀j,j<51->f j=j)->f9 f (b.m i)=b.m i
 B:∀f,bQ f b.B=b.B
 T0:∀f,bQ f b.T0=b.T0
 T1:∀f,bQ f b.T1=b.T1
 T2:∀f,bQ f b.T2=b.T2
 nl:∀f,bQ f b.nl=b.nl
 c2:∀f,cK f b.c2=b.c2
 e0:∀f,cK f b.e0=b.e0
 e1:∀f,cK f b.e1=b.e1
 d0:∀f,cK f b.d0=b.d0
 d1:∀f,cK f b.d1=b.d1
def MB.WV(f:I->I)(b:MB):MB:={b with m:=λi=>f9 f 30e0,T0:=bQ f b.T0,T1:=bQ f b.T1,T2:=bQ f b.T2,nl:=bQ f b.nl,c2:=73 b.c2,e0:=73 b.e0,e1:=73 b.e1,d0:=73 b.d0,d1:=73 b.d1}
def amm(b:MB)(oc au:0e0)(en:V)(apu f:I->I)(e:(λj=>cC (I.jP j 51) j (apu j))=f):(150 b au).aj (f9 f)=dc (b.WV f) (bQ f oc) 41e0 (bQ f au):=by
 subst e;kernel_rfl
def WW(s:oh b)(f:I->I)(h:∀j,j<51->f j=j)(x:bQ f oc=oc)(a:41e0=en)(hs:bQ f au=au):(150 b au).aj (f9 f)=150 b au:=by
 have e:=amm b oc au en f f (NH 51 h);unfold MB.WV at e;rw[x,a,hs,s.T0,s.T1,s.T2,s.nl,s.c2,s.e0,s.e1,s.d0,s.d1,y8 λi=>s.m i f h]at e;exact e
def ux(b:MB)(oc:0e0)(en:V)(au:0e0):(150 b au).U=51:=H
def amn{ca:6e1}(h:c7 r=c6 v O T ca):∃fE,r= 93 v fE ca/\fE.fI 51=O:=by
 cases r with
 |aT a F ob=>
  obtain⟨o,l,c⟩:=F;(show hV (Eq.mp (R.aT.fv ..) h) λe u s=>?_;subst e;subst s);(show hV (Eq.mp (MS.mk.fv ..) u) λh1 x s=>?_;subst x;subst s);exact⟨o,H,h1⟩
 |a8 i F ob=>cases h
 |no w=>cases h
def amo(m:oh b)(n:21 oc oc)(a:∀f,41e0=en)(hs:21 au au)(h:fE.fI 51=150 b au)(p:∀k v,19 mJ=2e4->∃v2,19e1=G v2/\∀f:I->I,(∀j,j<51->f j=j)->dG v2=dG 15e3):gb 51 fE (150 b au) T mJ (gn 42e8 fE.U):=by
 have x:∀j,j<51->gn 42e8 fE.U j=j:=λj r=>by
  unfold gn;rw[D.uu r];rfl
 show gb.sF ?_ D.WX (λk v e=>?_) (by simp)
 ·rw[C3,WW m _ x (n _) (a _) (hs _),<-h];show D.V9 λi=>?_;rw[D.n4,D.n4];by_cases s:i<51
  ·rw[D.uu s,D.Nv s];refine G ((fE[i]?).aj eJ)=(fE[i]?).aj (λo=>G (eJ o));have:i<fE.U:=by
    have:=bC D.U h;rw[D.qQ,ux]at bb;lia
   rw[D.ie bb];rfl
  ·rw[D.q4 (by simp;exact I.C9 s),D.q4 (by rw[h,ux];exact I.C9 s)];rfl
 ·show aN (p k v e) λv2 e1 e2=>?_;exact⟨v2,e1,e2 _ x⟩
def amp{b:MB}(s:21 b.B b.B){k:I}{bx:V}(h:b.B[k]? =G bx)(f:I->I):73 bx=bx:=by
 have:=s f;rw[lH]at bb;have e:=bC (·[k]?) bb;simp only[D.n4,h,ar.td,ar.G.fv]at e;exact e
def amq{b:MB}(x:21 b.B b.B){k:I}{bx:V}(h:b.B[k]? =G bx){ex:0e1}:∀k v,19 (1e7++[(131,bx)])=2e4->∃v2,19 (1e7++[(131,bx)]++ex)=G v2/\∀f:I->I,(∀j,j<51->f j=j)->dG v2=dG 15e3:=by
 intro k v e;show⟨v,wd e,λf s=>?_⟩;have hm:=iX e;clear e;simp only[b2,D.NM,D.uS,D.eS,kF.mk.fv,D.mq,mr]at hm;rcases hm with⟨_,H⟩|⟨_,H⟩|⟨_,H⟩|⟨_,H⟩|⟨_,H⟩
 ·exact bC (λv=>dG (.Z v)) (s 5 aq).bi
 ·exact bC (λv=>dG (.ad v _)) (x f).bi
 ·rfl
 ·exact bC (λv=>dG (.Z v)) (s 50 aq).bi
 ·rw[amp x h f]
def amr{F:MS}:kW F (5 1448):=17e5
def zc(w:oh b')(j:21 b.B b.B){k:I}{bx:V}(m:b.B[k]? =G bx){oc au b7:0e0}{v en:V}(n:21 oc oc)(h:∀f,41e0=en)(hs:21 b7 b7)(a:∀f,15e3=v){o:2e1}{ca:6e1}
  (dj:c7 (df aw 1e2 b.apr bx au (1e7++[(131,bx)]) o)=c6 v (150 b' b7) (1e7++[(131,bx)]) ca) (q1:13e1):xO aw b bx au v (150 b' b7):=by
 show aN (amn dj) λfE e r=>?_;have S:=hU 39 90 (22 1448 [6e3,bx,10e6,49e0]) ⟨373 1e2,1e7++[(131,bx)],o⟩;have i:apy aw 90 39 (22 1448 [6e3,bx,10e6,49e0]) ⟨373 1e2,1e7++[(131,bx)],o⟩= .aT (.v v) ⟨fE,1e7++[(131,bx)],[]⟩ ca:=e;rw[i]at S;have s:=amo w n h hs r (T:=1e7++[(131,bx)]) (mJ:=1e7++[(131,bx)]) λq u l=>by
  have:=amq j m (ex:=[]) q u l;rwa[D.dZ]at bb
 have x:v=cK (gn 42e8 fE.U) v:=(a _).bi;rw[x]at S;exact Wd (f:=gn 42e8 fE.U) S q1 s amr
def LC(b:MB)(k:I)(au:0e0)(bI:fk):Prop:=aw 39 (.gk (.n 131) (357 b.B) k qH) 30e4 1e7 bI
def NR{b:MB}{k:I}{bx:V}(h:b.B[k]? =G bx):∀F,It.at F (357 b.B) k=G (G bx):=λF=>by
 refine G b.B[k]? =_;rw[h]
def NS(b:MB)(O:1e0)(bx:V):∀o,pH ⟨O,1e7,o⟩ (.n 131) bx= 125 () ⟨O,1e7++[(131,bx)],o⟩:=λo=>rfl
def WY(a:oh b)(r:21 oc oc)(x:∀f,41e0=en)(hs:21 au au)(p:21 b0.B b0.B):gb 51 (150 b au) (150 b au) (b2 b0++ex) (b2 b0) 39e6:=
 ⟨⟨λi o e=>⟨o,e,by rw[uv]⟩,λi h=>h,λi j s s h=>h,λk v e=>⟨v,wd e,by rw[n8]⟩⟩,λi s=>rfl,I.h8 (ux ..).bi⟩
def oi(m:4e9)(f:I->I):bQ f (m.aj bB)=m.aj bB:=by
 rw[lH,D.rC];rfl
def Da{b b':MB}(x:oh b')(e:21 b.B b.B)(e1:b'.B=b.B)(e2:b'.apr=b.apr){k:I}{c:K}{aD:0e0}(m:c∈jS)(h:b.B[k]? =G (.X (1e5::aD))){oc au b7:0e0}(v:oc=36e1)(hs:21 b7 b7){o:2e1}{ca:6e1}{bI:fk}
  (dj:289 1e2 (1e5::aD) au (1e7++[(131,.X (1e5::aD))]) o=202 b' oc b7 (1e7++[(131,.X (1e5::aD))]) ca) (q1:13e1) (IH:LC b' (k+1) b7 bI):LC b k au bI:=by
 subst v;have hd:=zc x e h (oi b'.aO) 22e4 hs 22e4 dj q1;have n:b2 b'=1e7:=by unfold b2;rw[e1,e2]
 have r:=wb (a3:= 24e4) (f:=λi=>i) (fN:=ad b' 0e6 b7) (gc:=1e7) (QP aw b b' 36e1 au b7 aD c m) (λp a=>by rw[D.cZ]at a;exact a▸hd) (WY x (oi b'.aO) 22e4 hs (b0:=b) e);show y1 (NR h) (NS b _ _) r ?_;unfold LC at IH;rw[e1,n]at IH;exact IH
def Db{b b':MB}(a:oh b')(n:21 b.B b.B){k:I}{bx:V}(x:b.B[k]? =G bx){oc au b7:0e0}{en w:V}(m:21 oc oc)(s:∀f,41e0=en)(hs:21 b7 b7){o:2e1}{ca:6e1}{ex:0e1}
  (dj:126 aw 39 qH ⟨30e4,1e7++[(131,bx)],o⟩= .aT (105 w) ⟨150 b' b7,1e7++ex,[]⟩ ca) (q1:13e1):LC b k au (.Y (105 w) (150 b' b7) 1e7):=by
 have r:126 aw 39 qH ⟨30e4,1e7++[(131,bx)],o⟩= .aT (wa 39e6 (A.f (.bk w))) ⟨150 b' b7,1e7++ex,[]⟩ ca:=by
  have e:wa 39e6 (A.f (.bk w))=A.f (.bk w):=by refine A.f (.bk (cK 39e6 w))=_;rw[n8]
  rw[e];exact dj
 have h:=wb (fN:=150 b' b7) (gc:=1e7) r q1 (WY a m s hs (b0:=b) n);exact aka (NR x) (NS b _ _) h
set_option genCtorIdx true in
inductive apv where
 |cA|j4|rf|rx|x|s8
def KV:apv->V->Prop
 | .cA,v=>∃n:K,v= 0e3/\0<=n/\n<4294967296
 | .j4,v=>∃n:K,v= 0e3/\0<=n/\n<18446744073709551616
 | .rf,v=>v= 0e6\/∃n:K,v= 0 n/\0<=n/\n<6
 | .rx,v=>v= 0e6\/∃n:K,v= 0 n
 | .x,v=>v= 0e6\/∃(n:K) (t:al),v= .y n t
 | .s8,v=>∃n:K,v= 0e3/\0<=n/\n<256
@[elab_as_elim] def ik {C:V->Prop} (h:KV .cA v) (g:∀n:K,0<=n/\n<4294967296->C (.y n true)):C v:=by
 (show aN h λn x s=>?_;try clear h;subst x);exact g n s
def KV.x(h:KV q v):KV .x v:=by
 cases q with
 |cA=>(show aN h λn s e=>?_;try clear h;subst s);exact 354 n H
 |j4=>(show aN h λn s e=>?_;try clear h;subst s);exact 354 n H
 |rf=>rcases h with H|⟨n,H,_⟩;exact .a4 H;exact .aE ⟨n,_,H⟩
 |rx=>rcases h with H|⟨n,H⟩;exact .a4 H;exact .aE ⟨n,_,H⟩
 |x=>exact h
 |s8=>(show aN h λn s e=>?_;try clear h;subst s);exact 354 n H
def KV.eR(h:KV q v)(f:I->I):15e3=v:=by
 rcases h.x with H|⟨n,t,H⟩<;>rfl
def eL(q:apv)(l:0e0):Prop:=∀v∈l,KV q v
def eL.eR(h:eL q l)(f:I->I):bQ f l=l:=by
 rw[lH];exact(D.yD λv s=>(h v s).eR f).aV (D.map_id l)
def uy(p:K×V):V:= .X [0 p.1,6 [p.2]]
def uz(p:K×V):V:= .X [0 p.1,8 [p.2]]
structure c8(b:MB)(k:I)(ns:D (K×V)):Prop where
 aO:b.aO.U=16\/b.aO.U=32
 T0:eL .rf b.T0/\b.T0.U<=6
 T1:eL .rx b.T1/\b.T1.U<=4
 T2:eL .rf b.T2/\b.T2.U<=7
 c0:0<=b.c0/\b.c0<4294967296
 c1:0<=b.c1/\b.c1<18446744073709551616
 c2:KV .rf b.c2
 e0:b.e0= .aa .L\/∃l,b.e0= .ad l true/\eL .rf l/\l.U=4
 e1:b.e1= .aa .L\/∃l,b.e1= .ad l true/\eL .rx l/\l.U=2
 d0:b.d0= .aa .L\/∃l,b.d0= .ch l/\l.U=8
 d1:b.d1= .aa .L\/∃l,b.d1= .ch l/\l.U=2
 no:b.no=ns.aj uy
 nl:b.nl=ns.aj uz
 ns:(∀p∈ns,KV .x p.2)/\ns.U<=k
 fc:0<=b.fc/\b.fc<1000
 apr:b.apr=1\/b.apr=3
 g:eL .x b.g
 B:(∀f,bQ f b.B=b.B)/\b.B.U<=1000
def WZ{ns:33e1}(h:∀p∈ns,KV .x p.2)(f:I->I):bQ f (ns.aj uy)=ns.aj uy/\bQ f (ns.aj uz)=ns.aj uz:=by
 constructor
 ·rw[lH,D.rC];show D.yD λp s=>?_;refine 73 (uy p)=uy p;exact bC (λv=>uy (p.1,v)) ((h p s).eR f)
 ·rw[lH,D.rC];show D.yD λp s=>?_;refine 73 (uz p)=uz p;exact bC (λv=>uz (p.1,v)) ((h p s).eR f)
def Dc(h:v= 0e6\/∃l,v= 6 l/\eL q l/\l.U=n)(f:I->I):15e3=v:=by
 rcases h with H|⟨l,H,s,_⟩
 ·rfl
 ·exact bC (V.ad · _) (s.eR f)
def Dd(h:v= 0e6\/∃l,v= .ch l/\l.U=n)(f:I->I):15e3=v:=by
 rcases h with H|⟨l,H,_⟩<;>rfl
def ku(apC:I)(m:4e8):Prop:=∀i (f:I->I),(∀j,j<apC->f j=j)->f9 f (m i)=m i
section
variable{b:MB}{k:I}{ns:D (K×V)}
def c8.wf(h:20e7)(hm:ku 62 b.m):l7 b:=⟨hm,h.B.1,h.T0.1.eR,h.T1.1.eR,h.T2.1.eR,λf=>by rw[h.no];exact(WZ h.ns.1 f).1,h.g.eR,h.c2.eR,Dc h.e0,Dc h.e1,Dd h.d0,Dd h.d1⟩
def c8.oj(h:20e7){mL:4e8}(hm:ku 51 mL):oh {b with m:=mL}:=⟨hm,h.B.1,h.T0.1.eR,h.T1.1.eR,h.T2.1.eR,λf=>by refine bQ f b.nl=b.nl;rw[h.nl];exact(WZ h.ns.1 f).2,h.c2.eR,Dc h.e0,Dc h.e1,Dd h.d0,Dd h.d1⟩
universe e
abbrev lw(mL:4e8)(b:MB):MB:={b with m:=mL}
inductive De (b:MB) (apu:K->fk):Prop
 |mk (S:I) (kn:D (V×V)) (k:K) (aqL W0:D V) (aD:D aps) (c:K) (e:apu=(λdn=> .Y (.f .bA) (dE S kn [] k aqL W0 false b aD) (dK (dn+c))))
  (q:(S=55/\W0=[]/\aD=[])\/(S=62/\∃apw E,(apw= .au []\/apw= .az [] true)/\(E=[]\/E=js)/\aD=apw::E))
inductive zd (b:MB) (C:aI) (z:am) (apu:K->fk):Prop
 |mk (sh:Sh) (k:K) (au:D V) (h:hq sh) (e:apu=λzz=> .a8 (b1 sh b k []).U (ek sh b k au (.a8 C [(58,.ag z)])) [])
def Df(b:MB)(s:V)(apu:K->fk):Prop:=
 (s= .X [28e7,5e7]/\De b apu)\/(∃z,s= .X [.ag rK,7e8]/\cm.rM z=true/\zd b 51 z apu)\/(s= .X [25e3,14e5]/\zd b 63 h9 apu)
structure aqM(b0 bF:MB)(en:V)(cB:D V):Prop where
 e1:bF.m=b0.m
 e2:bF.B=b0.B
 e3:bF.fc=b0.fc
 e4:bF.apr=b0.apr
 e5:∀f,cK f en=en
 apH:∀f,bQ f cB=cB
inductive apF (mL:I->aps) (b0:MB) (sh:Sh) (b:MB) (k:I) (au:D V):Prop
 |mk (apu:K->fk) (gp en:V) (cB:D V) (bF:MB) (aqN:I) (nsF:D (K×V)) (h1:MC sh b k au apu) (h2:∀mL,ku 51 mL->LC (lw mL b) k au (.Y (.f (.bk gp)) (dc (lw mL bF) (bF.aO.aj bB) en cB) (b2 b))) (h3:Df bF gp apu) (h4:c8 bF aqN nsF) (t:aqM b0 bF en cB)
def bu(b b':MB):Prop:=b'.m=b.m/\b'.B=b.B/\b'.fc=b.fc/\b'.apr=b.apr
def ams(h:34e9):b2 b'=1e7:=by
 unfold b2;rw[h.2.1,h.2.2.2]
def De.wg{apu:K->fk}(h:De b apu)(c:K):De b (212 (dn+c)):=by
 obtain(⟨S,s,k,e,x,aD,c2,H,q⟩):=h;exact⟨S,s,k,e,x,aD,c+c2,y8 λdn=>by refine fk.Y _ _ (dK (dn+c+c2))=_;rw[K.Wp],q⟩
def zd.wg{apu:K->fk}(h:zd b C z apu)(c:K):zd b C z (212 (dn+c)):=by
 obtain(⟨sh,k,au,q,H⟩):=h;exact⟨sh,k,au,q,H⟩
def Df.wg{apu:K->fk}(h:Df b gp apu)(c:K):Df b gp (212 (dn+c)):=
 h.f5 (.f5 id λh=>h.wg c) (.f5 (.f5 λs=> .f5 id (.f5 id λh=>h.wg c)) (.f5 id λh=>h.wg c))
def ze{mL:4e8}(hs:34e9)(hm:∀apu,MC sh' b' (k+1) b7 apu->MC sh b k au (212 (dn+c)))(e:∀mL,ku 51 mL->∀bI,LC 23e4 (k+1) b7 bI->LC 14e0 k au bI)(x:apF mL b0 sh' b' (k+1) b7):32e0:=by
 obtain(⟨apu,h,en,cB,p,r,m,h1,h2,h3,a,s⟩):=x;exact⟨_,h,en,cB,p,r,m,hm apu h1,λmL hL=>e mL hL _ (ams hs▸h2 mL hL),h3.wg c,a,s⟩
structure Cx(mL:I->aps)(sh:Sh)(b:MB)(k:I)(ns:D (K×V))(bx:V):Prop where
 apx:c8 b k ns
 hm:ku 62 b.m
 hL:ku 51 mL
 h3:hq sh
 hr:b.B[k]? =G bx
section
variable{mL:I->aps}{sh:Sh}{b b' b0:MB}{k:I}{ns lj:D (K×V)}{au b7:D V}{c:K}{r:D V}{o:D cq}{o2:(I->aps)->D cq}{ca:D Prop}{nn:(I->aps)->D Prop}{oc:(I->aps)->D V}
def Cx.at(C:Cx mL sh b k ns bx):m5 b k bx:=C.hr
def zf(hs:34e9)(s:7e4):iV b' k false:=by
 refine bM _=false;rw[hs.2.1];simp only[decide_eq_false_iff_not];lia
def amt(hs:34e9)(s:k+1=b.B.U):iV b' k true:=by
 refine bM _=true;rw[hs.2.1];simp only[mX];exact K.h8 (bC I.cast (id (Eq.bi s)))
def c8.up(apx:20e7):82 1e2 (k+1):=⟨apx.aO,apx.T0,apx.T1,apx.T2,apx.c0,apx.c1,apx.c2,apx.e0,apx.e1,apx.d0,apx.d1,apx.no,apx.nl,⟨apx.ns.1,I.aeJ apx.ns.2⟩,apx.fc,apx.apr,apx.g,apx.B⟩
def fX(C:18 (1e5::r))(s:7e4)(a:c∈jS)(hs:34e9)(e:c8 b' (k+1) lj)(x:21 b7 b7)
  (dj:303 (k+1) (1e5::r) au (1e5::r) o=ea (b1 sh b' (k+1) b7) (32 (1e5::r)) ca) (ho:13e1)
  (l9:∀mL,289 1e6 (1e5::r) au (1e7++[(131,.X (1e5::r))]) (o2 mL)=202 23e4 32e9 b7 (1e7++[(131,.X (1e5::r))]) (nn mL)) (ma:46e7) (q6:∀mL,32e9=36e1)
  (IH:apF mL b0 sh b' (k+1) b7):32e0:=
 ze hs (λapu h=>Wz dj ho C.at (zf hs s) h) (λmL hL bI h=>Da (b:=14e0) (b':=23e4) (e.oj hL) C.apx.B.1 hs.2.1 hs.2.2.2 a C.hr (q6 mL) x (l9 mL) (ma mL) h) IH
def amu(C:18 (1e5::r))(e:7e4)(a:c∈jS)(hs:34e9)(x:c8 b' (k+1) lj)(s:21 b7 b7)
  (dj:303 (k+1) (1e5::r) au (1e5::r) o=ea (ek sh b' (k+1) b7 g) (32 (1e5::r)) ca) (ho:13e1)
  (l9:∀mL,289 1e6 (1e5::r) au (1e7++[(131,.X (1e5::r))]) (o2 mL)=202 23e4 32e9 b7 (1e7++[(131,.X (1e5::r))]) (nn mL)) (ma:46e7) (q6:∀mL,32e9=36e1)
  (IH:apF mL b0 sh b' (k+1) b7):32e0:=
 ze hs (λapu h=>aln C.h3 (x.wf (hs.1▸C.hm)) s dj ho C.at (zf hs e) h) (λmL hL bI h=>Da (b:=14e0) (b':=23e4) (x.oj hL) C.apx.B.1 hs.2.1 hs.2.2.2 a C.hr (q6 mL) s (l9 mL) (ma mL) h) IH
def amv(h:LC (183 (fR sh b' cO)) k au bI):LC 23e4 k au bI:=by
 cases sh<;>exact h
def W7(C:18 (1e5::r))(v:7e4)(n:c∈jS)(hs:34e9)(s:c8 (fR sh b' cO) (k+1) lj)(x:21 b7 b7)
  (dj:303 (k+1) (1e5::r) au (1e5::r) o=ea (vq sh b' (k+1) cO b7 [3e7]) (32 (1e5::r)) ca) (ho:13e1)
  (l9:∀mL,289 1e6 (1e5::r) au (1e7++[(131,.X (1e5::r))]) (o2 mL)=202 23e4 32e9 b7 (1e7++[(131,.X (1e5::r))]) (nn mL)) (ma:46e7) (q6:∀mL,32e9=36e1)
  (IH:apF mL b0 (y9 sh) (fR sh b' cO) (k+1) b7):32e0:=by
 have e:72 (fR sh b' cO):=by cases sh<;>exact hs
 have hm:ku 62 (fR sh b' cO).m:=by rw[e.1];exact C.hm
 have m:∀mL,ku 51 mL->oh 23e4:=λmL hL=>by
  have:=s.oj hL;cases sh with
  |a=>exact⟨bb.m,bb.B,bb.T0,bb.T1,bb.T2,bb.nl,bb.c2,bb.e0,bb.e1,bb.d0,bb.d1⟩
  |b w E=>exact bb
 exact ze e (λapu h=>alp C.h3 (s.wf hm) x dj ho C.at (zf hs v) h) (λmL hL bI h=>Da (b:=14e0) (b':=23e4) (m mL hL) C.apx.B.1 hs.2.1 hs.2.2.2 n C.hr (q6 mL) x (l9 mL) (ma mL) (amv h)) IH
def jg(C:18 (1e5::r))(m:c∈19::jS)(hs:34e9)(x:c8 b' (k+1) lj)(h0:14e1)(h:21 cB cB)
  (dj:fU (303 (k+1) (1e5::r) au (1e5::r) o)=gy (276 (k+1) []).U (139 b' (k+1) b7 51 [(58,7e8)]) ca) (ho:13e1)
  (l9:∀mL,289 1e6 (1e5::r) au (1e7++[(131,.X (1e5::r))]) (o2 mL)=c6 7e8 (85 23e4 32e9 cB) (1e7++[(131,.X (1e5::r))]) (nn mL)) (ma:46e7) (q6:∀mL,32e9=36e1) (hz:cm.rM z=true):32e0:=by
 have cR:∀mL,ku 51 mL->LC 14e0 k au (.Y (307 [.ag rK,7e8]) (85 23e4 36e1 cB) 1e7):=λmL hL=>by
  have a:=l9 mL;rw[q6 mL]at a;have hd:=zc (b:=14e0) (b':=23e4) (x.oj hL) C.apx.B.1 C.hr (oi b'.aO) 22e4 h 22e4 a (ma mL);exact Db (b:=14e0) (b':=23e4) (w:= .X [.ag rK,7e8]) (x.oj hL) C.apx.B.1 C.hr (oi b'.aO) (en:= 0e6) 22e4 h (adi aw 14e0 23e4 36e1 au cB r z c m) (39 hd)
 show⟨_,_,0e6,cB,b',k+1,lj,WA C.h3 dj H ho C.at,cR,.aE (.a4 ⟨z,H,hz,sh,k+1,b7,C.h3,?_⟩),x,?_⟩
 ·have e:(276 (k+1) []).U=(b1 sh b' 49e1 []).U:=by
   clear dj;rcases C.h3 with H|rfl|rfl<;>rfl
  clear C;rw[e];rfl
 ·exact⟨hs.1.aV h0.1.bi,hs.2.1.aV h0.2.1.bi,hs.2.2.1.aV h0.2.2.1.bi,hs.2.2.2.aV h0.2.2.2.bi,λs=>rfl,h⟩
universe e
def ef:D apv->0e0->Prop
 | [],[]=>kx
 |q::ts,v::vs=>KV q v/\ef ts vs
 |_,_=>fT
def ef.eR:∀{ts:D apv} {vs:0e0},ef ts vs->∀f,bQ f vs=vs
 | [],[],_,f=>rfl
 |q::ts,v::vs,h,f=>(bC (· ::_) (h.1.eR f)).aV (bC (v:: ·) (ef.eR h.2 f))
def ef.cU:∀{ts:D apv} {vs:0e0},ef ts vs->vs.U=ts.U
 | [],[],_=>rfl
 |q::ts,v::vs,h=>by rw[D.m7,D.m7,ef.cU h.2]
def Nx(mL:4e8)(b0 b:MB)(k:I)(ts:D apv):Prop:=∀s b' lj b7,hq s->34e9->c8 b' (k+1) lj->ef ts b7->apF mL b0 s b' (k+1) b7
def amw(P:PP)(d:I)(O:1e0)(T:0e1)(n:K):228 20 1 84 [0e3,28e8] []= 93 (2 (Builtin.i8 n 4294967295)) O []:=ake P d O T n
def W8:58 aw (d+1) 84 [0e3,28e8] 47e4:=by
 intro O T;show iZ (n:=20) (o1:=[]) (o2:=[]) (ob:=[]) ?_ (λp s=>nomatch s) 17e5;rw[amw,C2]
def mb(n:K)(h:0<=apB):n.ah apB=n % apB:=K.fmod_eq_emod_of_nonneg n h
def bu.b8(b:MB):72 1e2:=⟨H,H,H,H⟩
section
variable{mL:I->aps}{sh:Sh}{b b0:MB}{k:I}{ns:D (K×V)}{ts:D apv}{aD:D V}
def amx(C:18 [5e8,0e3])(a:7e4)(x:30e5)(r:ts.U<=5)(e:77 (.cA::ts)):40e9:=by
 have h1:=x.cU;have s:=λmL:4e8=>(by
  have s:=WK aw 1e6 (1e7++[(131,.X [5e8,0e3])]) n aD
  rw[mb n aq]at s
  exact s:_)
 have h:ef (.cA::ts) (2 47e4::aD):=⟨⟨_,H,K.ni _ aq,K.og _ aq⟩,x⟩;exact 124 a aq h.eR (Wv aw sh 1e2 k (k+1) _ n aD) (24 W8 bN) s (231 cI bN) (e sh _ ns _ C.h3 5e3 C.apx.up h)
def amy(r:0<=n/\n<256)(C:18 [5e8,0e3])(a:7e4)(x:30e5)(p:ts.U<=5)(e:77 (.s8::ts)):40e9:=by
 have h1:=x.cU;have s:=λmL:4e8=>(by
  have s:=WK aw 1e6 (1e7++[(131,.X [5e8,0e3])]) n aD
  rw[mb n aq]at s
  exact s:_)
 have h:ef (.s8::ts) (2 47e4::aD):=⟨⟨_,H,K.ni _ aq,bN⟩,x⟩;exact 124 a aq h.eR (Wv aw sh 1e2 k (k+1) _ n aD) (24 W8 bN) s (231 cI bN) (e sh _ ns _ C.h3 5e3 C.apx.up h)
def amz(C:18 [21e4,0e3])(a:7e4)(x:30e5)(r:ts.U<=5)(e:77 (.j4::ts)):40e9:=by
 have h1:=x.cU;have s:=λmL:4e8=>(by
  have s:=alz aw 1e6 (1e7++[(131,.X [21e4,0e3])]) n aD
  rw[mb n aq]at s
  exact s:_)
 have h:ef (.j4::ts) (2 50e4::aD):=⟨⟨_,H,K.ni _ aq,K.og _ aq⟩,x⟩;exact 124 a aq h.eR (akC aw sh 1e2 k (k+1) _ n aD) (24 Wk bN) s (231 cI bN) (e sh _ ns _ C.h3 5e3 C.apx.up h)
def amA(e:q= .rf\/q= .rx)(C:18 [0 208,0e3])(a:7e4)(h:30e5)(r:ts.U<=5)(x:77 (q::ts)):40e9:=by
 have h1:=h.cU;have s:ef (q::ts) (0e6::aD):=⟨by rcases e with H|rfl<;>exact .a4 H,h⟩;exact 124 a aq s.eR (akD aw sh 1e2 k (k+1) _ n aD) 40e8 (λmL=>alA aw 1e6 _ n aD) 44e3 (x sh _ ns _ C.h3 5e3 C.apx.up s)
def amB(h:0<=n/\n<6):∃v:K,dq [1e3,1e8,0e7,10e8,3e8,3e4] n=G (0 v)/\0<=v/\v<6:=by
 have:n=0\/n=1\/n=2\/n=3\/n=4\/n=5:=bN;rcases bb with H|rfl|rfl|rfl|rfl|rfl
 ·exact⟨1,H,aq,aq⟩
 ·exact⟨2,H,aq,aq⟩
 ·exact⟨0,H,aq,aq⟩
 ·exact⟨4,H,aq,aq⟩
 ·exact⟨5,H,aq,aq⟩
 ·exact⟨3,H,aq,aq⟩
def amC(x:0<=n/\n<6)(C:18 [0 210,0e3])(r:7e4)(h:30e5)(m:ts.U<=5)(a:77 (.rf::ts)):40e9:=by
 have h1:=h.cU;show aN (amB x) λv e p=>?_;have s:ef (.rf::ts) (0 v::aD):=⟨247 v H p,h⟩;exact 124 r aq s.eR (akE aw sh 1e2 k (k+1) _ n v aD) (24 e bN) (λmL=>alB aw 1e6 _ n v aD) (231 e bN) (a sh _ ns _ C.h3 5e3 C.apx.up s)
def amD(C:18 [28e8,0e7])(e:7e4)(h:30e5)(a:ts.U<=5)(x:77 (.rx::ts)):40e9:=by
 have h1:=h.cU;have s:ef (.rx::ts) (0 9::aD):=⟨.aE ⟨9,H⟩,h⟩;exact 124 e aq s.eR (akF aw sh 1e2 k (k+1) _ aD) 40e8 (λmL=>alC aw 1e6 _ aD) 44e3 (x sh _ ns _ C.h3 5e3 C.apx.up s)
def amE(a:KV .rx v)(C:18 [43e0])(e:7e4)(h:30e5)(r:ts.U<=5)(x:77 (.x::ts)):48 (v::aD):=by
 have h1:=h.cU;rcases a with H|⟨n,H⟩
 ·have s:ef (.x::ts) (1e3::aD):=⟨19e7,h⟩;exact 124 e aq s.eR (akG aw sh 1e2 k (k+1) _ aD) 40e8 (λmL=>alD aw 1e6 _ aD) 44e3 (x sh _ ns _ C.h3 5e3 C.apx.up s)
 ·have s:ef (.x::ts) (0e7::aD):=⟨19e7,h⟩;exact 124 e aq s.eR (akH aw sh 1e2 k (k+1) _ n aD) 40e8 (λmL=>alE aw 1e6 _ n aD) 44e3 (x sh _ ns _ C.h3 5e3 C.apx.up s)
def amF(C:18 [16e3,0e7])(e:7e4)(h:30e5)(a:ts.U<=5)(x:77 (.x::ts)):40e9:=by
 have h1:=h.cU;have s:ef (.x::ts) (31e2::aD):=⟨19e7,h⟩;exact 124 e aq s.eR (akI aw sh 1e2 k (k+1) _ aD) 40e8 (λmL=>alF aw 1e6 _ aD) 44e3 (x sh _ ns _ C.h3 5e3 C.apx.up s)
def amG(C:18 [16e3,1e3])(e:7e4)(h:30e5)(a:ts.U<=5)(x:77 (.x::ts)):40e9:=by
 have h1:=h.cU;have s:ef (.x::ts) (31e1::aD):=⟨19e7,h⟩;exact 124 e aq s.eR (akJ aw sh 1e2 k (k+1) _ aD) 40e8 (λmL=>alG aw 1e6 _ aD) 44e3 (x sh _ ns _ C.h3 5e3 C.apx.up s)
def amH(C:18 [16e3,1e8])(p:7e4)(r:30e5)(m:ts.U<=5)(a:77 (.x::ts)):40e9:=by
 have h1:=r.cU;have s:ef (.x::ts) (b.c2::aD):=⟨C.apx.c2.x,r⟩;have x:=λmL:4e8=>alH aw 1e6 (1e7++[(131,.X [16e3,1e8])]) aD;rcases C.apx.c2 with e|⟨n,e,_⟩
 ·have hm:=akK aw sh 1e2 k (k+1) (32 [16e3,1e8]) aD;have h:({aG b with c2:= .aa .L}:MB)=1e2:=by rw[<-e]
  rw[h,<-e]at hm;exact 124 p aq s.eR hm 40e8 x 44e3 (a sh _ ns _ C.h3 5e3 C.apx.up s)
 ·have hm:=akL aw sh 1e2 k (k+1) (32 [16e3,1e8]) n aD;have h:({aG b with c2:= .y n false}:MB)=1e2:=by rw[<-e]
  rw[h,<-e]at hm;exact 124 p aq s.eR hm 40e8 x 44e3 (a sh _ ns _ C.h3 5e3 C.apx.up s)
def amI(a:30e2)(C:18 [21e3,0e7])(r:7e4)(s:30e5)(e:77 ts):48 (v::aD):=by
 show ik a λn h=>?_;have hs:72 {aG b with c0:=n}:=5e3;have x:82 {aG b with c0:=n} (k+1):={C.apx.up with c0:=h};exact fX C r aq hs x s.eR (akM aw sh 1e2 k (k+1) _ n aD) a5 (λmL=>alI aw 1e6 _ n aD) 48e2 13e8 (e sh _ ns _ C.h3 hs x s)
def amJ(x:KV .j4 v)(C:18 [21e3,1e3])(p:7e4)(s:30e5)(a:77 ts):48 (v::aD):=by
 (show aN x λn r h=>?_;try clear x;subst r);have hs:72 {aG b with c1:=n}:=5e3;have e:82 {aG b with c1:=n} (k+1):={C.apx.up with c1:=h};exact fX C p aq hs e s.eR (akN aw sh 1e2 k (k+1) _ n aD) a5 (λmL=>alJ aw 1e6 _ n aD) 48e2 13e8 (a sh _ ns _ C.h3 hs e s)
def amK(e:KV .rf v)(C:18 [21e3,1e8])(a:7e4)(s:30e5)(x:77 ts):48 (v::aD):=by
 have hs:72 {aG b with c2:=v}:=5e3;have h:82 {aG b with c2:=v} (k+1):={C.apx.up with c2:=e};exact fX C a aq hs h s.eR (akO aw sh 1e2 k (k+1) _ v aD) a5 (λmL=>alK aw 1e6 _ v aD) 48e2 13e8 (x sh _ ns _ C.h3 hs h s)
universe e
def wh{l:I}{apt a n:K}(e:(l:K)<=apt)(x:apt<=7)(s:0<=a)(h:a+n<=(l:K)):106 n:=bN
def zg{l m:I}{apt a n:K}(e:(l:K)<=apt)(x:apt<=7)(s:0<=a)(h:a+n<=(l:K))(hm:m=n.aJ):106 m:=hm▸K.qy.bn (wh e x s h)
def Dg{l m:I}{apt a n:K}(b:(l:K)<=apt)(r:apt<=7)(e:0<=a)(p:0<=n)(h:a+n<=(l:K))(hm:m=n.aJ):l+m<=16777216:=
 have s:l<=7:=K.BU.mp (K.dV b r)
 have x:m<=l:=hm▸K.qy.bn (K.dV (K.NT e) h)
 I.dV (I.BF s (I.dV x s)) aq
def W9{n:K}(h0:0<=n)(h:106 n):jO n=true:=by simp only[jO,al.lg,mX];lia
def Dh{l m:I}{apt n:K}(h:(l:K)+n<=apt)(s:apt<=7)(h0:0<=n)(hm:m=n.aJ):n<=16777216/\m<=16777216/\((l+m:I):K)<=apt:=
 have e:(m:K)=n:=hm▸K.um h0
 have b:n<=16777216:=K.dV (K.dV (K.NT (K.nU l)) h) (K.dV s aq)
 ⟨b,K.BU.mp (e▸b),by rw[K.natCast_add,e];exact h⟩
def Xa{l:I}{apt:K}(h:(l:K)<=apt)(s:apt<=7):106 l:=I.dV (K.BU.mp (K.dV h s)) aq
def eL.cN{q:apv}{l:0e0}{v:V}{i:I}(h:eL q l)(x:KV q v):eL q (l.cN i v):=λw s=>by
 rcases D.B9 s with s|rfl
 ·exact h w s
 ·exact x
def eL.lX{q:apv}{l m:0e0}(h:eL q l)(hm:eL q m):eL q (l++m):=λw s=>(301 s) (h w) (hm w)
def eL.fi{q:apv}{l:0e0}{n:I}(h:eL q l):eL q (l.fi n):=λw s=>h w (D.U7 s)
def eL.fI{q:apv}{l:0e0}{n:I}(h:eL q l):eL q (l.fI n):=λw s=>h w (D.U8 s)
def eL.pV{q:apv}{l:0e0}{x app:8e5}(h:eL q l):eL q (178 l):=h.fi.fI
def eL.bW{q:apv}{l m:0e0}{x app:8e5}(h:eL q l)(hm:eL q m):eL q (bW l x app m):=(h.fI.lX hm).lX h.fi
def wi{α:Type}(v:α)(n:K):dN [v] n=286 v:=by
 unfold dN;generalize n.aJ=m;induction m with
 |i5=>rfl
 |hI m ih=>rw[D.Lk,D.R7,ih,D.Lk];rfl
def zh{α:Type}(v:α)(n:K):(dN [v] n).U=n.aJ:=by rw[wi,D.Cz]
def eL.br{q:apv}{v:V}{n:K}(h:KV q v):eL q (dN [v] n):=λw s=>by
 rw[wi]at s;rw[D.ahI s];exact h
def Xb{q:apv}{l:0e0}{a:K}(h:eL q l)(h0:0<=a)(x:a<l.U):∃v,dq l a=2e4/\KV q v:=by
 obtain⟨i,H⟩:=K.NU h0;have s:i<l.U:=by exact K.Lc.mp x
 exact⟨l[i],D.ie s,h _ (D.NV s)⟩
def q7{α:Type}(apt m:8e4){a n:K}(x:0<=a)(s:0<=n)(h:a+n<=apt.U)(hm:m.U=n.aJ):(205 apt m).U=apt.U:=by
 rw[NP apt m x s h hm,D.hP,D.hP,D.qQ,D.sg,hm,I.NL (I.dV (I.tS ..) (NO x s h)),I.agt (NO x s h)]
def Di{α:Type}(l:8e4){n:K}(s:0<=n)(h:l.U=n.aJ):50 l 0 (0+n)=l:=by
 rw[(mQ l (K.eD 0) s bN).1];rw[<-h];simp
def kt(t:K):apv:=if t=1 then .rx else .rf
def amL(t:K):22e3= .rf\/22e3= .rx:=by
 unfold kt;split
 ·exact 21e5
 ·exact 2e6
def wj{t:K}(s:7e3):0<=lm t/\lm t<=7:=by rcases s with H|rfl|rfl<;>decide
def c8.tb{b:MB}{k:I}{ns:33e1}(apx:20e7){t:K}(s:7e3):eL 22e3 10e3/\5e2<=lm t:=by
 have h0:=apx.T0.2;have h1:=apx.T1.2;have h2:=apx.T2.2;rcases s with H|rfl|rfl
 ·exact⟨apx.T0.1,by refine(b.T0.U:K)<=6;exact I.BB.KT H H h0⟩
 ·exact⟨apx.T1.1,by refine(b.T1.U:K)<=4;exact I.BB.KT H H h1⟩
 ·exact⟨apx.T2.1,by refine(b.T2.U:K)<=7;exact I.BB.KT H H h2⟩
def c8.e6{b:MB}{k:I}{ns:33e1}(apx:20e7){t:K}(x:7e3){l:0e0}(h:eL 22e3 l)(s:(l.U:K)<=lm t):82 (227 l) k:=by
 rcases x with H|rfl|rfl
 ·have s:(l.U:K)<=6:=s;exact{apx with T0:=⟨h,by refine l.U<=6;lia⟩}
 ·have s:(l.U:K)<=4:=s;exact{apx with T1:=⟨h,by refine l.U<=4;lia⟩}
 ·have s:(l.U:K)<=7:=s;exact{apx with T2:=⟨h,by refine l.U<=7;lia⟩}
def NW{b:MB}{t:K}(s:7e3){oc:0e0}{en:V}{au apt:0e0}:iz (t.aJ+2) b oc en au apt=150 (227 apt) au:=by rcases s with H|rfl|rfl<;>rfl
def Xc{b:MB}{t:K}(s:7e3):227 10e3=b:=by rcases s with H|rfl|rfl<;>rfl
def Xd{t:K}(s:7e3):G4 (t.aJ+2):=by rcases s with H|rfl|rfl<;>(unfold G4;decide)
def Dj{b:MB}{au:0e0}{t:K}(x:7e3){S:0e0}{a n s:K}{t1 t2:al}{w:V}{T:0e1}(r:0<=a)(hs:0<=s)(e:0<=n)(k:s+n<=S.U)(h2:a+n<=(10e3).U)(p:106 n):mF aw 30e4 (373 (227 (320 S))) 0e6 [.Z (t.aJ+2),0e2,.ad S t1,.y s t2,0e3,w] T:=by
 have h:=C8 (d:=36) (b:=b) (oc:=4e2) (en:= 0e6) (au:=au) (t:=t1) (t2:=t2) (w:=w) (T:=T) (Xd x) r hs e k h2 p;rw[NW x,NW x,Xc x]at h;exact h
def amM{b:MB}{au:0e0}{t:K}(r:7e3){S:0e0}{a n:K}{t1 t2:al}{w:V}{T:0e1}(e:0<=a)(x:0<=n)(p:S.U=n.aJ)(h2:a+n<=(10e3).U)(k:106 n):mF aw 30e4 (373 (227 (205 10e3 S))) 0e6 [.Z (t.aJ+2),0e2,.ad S t1,.y 0 t2,0e3,w] T:=by
 have h:=Dj (b:=b) (au:=au) (S:=S) (s:=0) (t1:=t1) (t2:=t2) (w:=w) (T:=T) r e (K.eD 0) x bN h2 k;rw[Di _ x p]at h;exact h
def wk{b:MB}{au:0e0}{t:K}(x:7e3){S:0e0}{a n s:K}{t1 t2:al}{w:V}{T:0e1}(h:¬(s+n<=S.U/\a+n<=(10e3).U)):mF aw 30e4 30e4 w [.Z (t.aJ+2),0e2,.ad S t1,.y s t2,0e3,w] T:=by
 have h:=we (d:=36) (b:=b) (oc:=4e2) (en:= 0e6) (au:=au) (apt:=10e3) (t:=t1) (t2:=t2) (w:=w) (T:=T) (Xd x) h;rw[NW x,Xc x]at h;exact h
def amN{d:I}{t s n:K}(e:7e3)(h0:0<=n)(h:s+n<=lm t):58 aw (d+1) 478 [0e8,0e3,A7 t,16e9] (s+n):=by
 have x:=(wj e).2;rcases e with H|rfl|rfl
 ·exact NE h0 ⟨by exact K.dV h x,h⟩
 ·exact NE h0 ⟨by exact K.dV h x,h⟩
 ·exact akA h0 h
def amO{d:I}{t s n:K}(x:7e3)(h0:0<=n)(h:¬s+n<=lm t):cw aw (d+1) 478 [0e8,0e3,A7 t,16e9] 0e6:=by
 rcases x with H|rfl|rfl
 ·exact NF h0 λq=>h q.2
 ·exact NF h0 λq=>h q.2
 ·exact akB h0 h
section
variable{mL:I->aps}{sh:Sh}{b b0:MB}{k:I}{ns:D (K×V)}{ts:D apv}{aD:D V}
def amP{t:K}(h:7e3){v:V}(r:30e2)(C:18 [38e1,1e1])(n:7e4)(h0:14e1)(m:77 [22e3]):48 [v]:=by
 show ik r λa x=>?_;by_cases s:a+1<=5e2
 ·obtain⟨v,e,r⟩:=Xb (C.apx.tb h).1 x.1 (by exact K.amQ s);have p:ef [22e3] [v]:=⟨r,d2⟩;exact 124 n aq p.eR (ak5 aw sh 1e2 k (k+1) _ t h a v) (130 (185 x.1 aq s) e 24e7) (λmL=>alV aw 1e6 _ t h a v) (162 (fY (show¬5e2<=a by exact K.jX.bn s)) (24 e 24e7)) (m sh _ ns _ C.h3 5e3 C.apx.up p)
 ·exact 242 aq (λw=>rfl) (ak4 aw sh 1e2 k (k+1) _ t h a 0e6) (245 ⟨x.1,aq,by refine 5e2<a+1;exact K.wl s⟩) (alU aw 1e6 _ t h a 0e6) (162 (eF (show 5e2<=a by exact K.dv.mp s)) a5)
def amR{t:K}(s:7e3){v w:V}(r:KV 22e3 w)(n:30e2)(C:18 [0 38,1e1])(q:7e4)(h0:14e1)(m:32e1):48 [w,v]:=by
 show ik n λa x=>?_;by_cases h:a+1<=5e2
 ·have hs:72 (32e8 t ((10e3).cN a.aJ w)):=5e3;have e:82 (32e8 t ((10e3).cN a.aJ w)) (k+1):=C.apx.up.e6 s ((C.apx.tb s).1.cN r) (by rw[D.vO];exact(C.apx.tb s).2);have hd:bM (0<=a/\a<5e2)=true:=eF ⟨x.1,by exact K.amQ h⟩;exact fX C q aq hs e (λp=>rfl) (ak7 aw sh 1e2 k (k+1) _ t s a w) (24 (185 x.1 aq h) hd) (λmL=>alX aw 1e6 _ t s a w) (231 (fY (show¬5e2<=a by exact K.jX.bn h)) hd) 13e8 (m sh _ ns [] C.h3 hs e d2)
 ·exact 242 aq (λp=>rfl) (ak6 aw sh 1e2 k (k+1) _ t s a w) (245 ⟨x.1,aq,by refine 5e2<a+1;exact K.wl h⟩) (alW aw 1e6 _ t s a w) (162 (eF (show 5e2<=a by exact K.dv.mp h)) a5)
def amS{t:K}(h:7e3)(C:18 [48e8,1e1])(x:7e4)(e:77 [.x]):48 []:=by
 have s:ef [.x] [20e9]:=⟨19e7,d2⟩;exact 124 x aq s.eR (ak8 aw sh 1e2 k (k+1) _ t h) (39 24e7) (λmL=>alY aw 1e6 _ t h) (162 24e7 a5) (e sh _ ns _ C.h3 5e3 C.apx.up s)
def amT{t:K}(s:7e3){v w:V}(o:128 w)(c:KV 22e3 v)(C:18 [39e2,1e1])(i:7e4)(u:77 [.x]):48 [w,v]:=by
 show ik o λn x=>?_;have d:=(C.apx.tb s).2;have e:=wj s;have l:((5e2).aL 1)=(10e3).U:=by rw[K.NC _ aq,K.ediv_one]
 by_cases h:5e2+n<=lm t
 ·have hs:72 (32e8 t (10e3++dN [v] n)):=5e3;have p:(dN [v] n).U=n.aJ:=zh v n;have m:(((b.tb t)++dN [v] n).U:K)<=lm t:=by rw[D.hP];exact(Dh h e.2 x.1 p).2.2
  have j:82 (32e8 t (10e3++dN [v] n)) (k+1):=C.apx.up.e6 s ((C.apx.tb s).1.lX (eL.br c)) m;have a:ef [.x] [20e9]:=⟨19e7,d2⟩;have q:jO n=true:=W9 x.1 (Dh h e.2 x.1 p).1;have hm:a9 .f4 n 1=true:=al.tR.bn (.aE (eF aq));have r:=λmL:4e8=>(by
   have r:=al0 aw 1e6 (1e7++[(131,.X [39e2,1e1])]) t s n v
   rw[K.mul_one]at r
   rw[show((((aG (lw mL b)).tb t).U:K).aL 1)=5e2 from l]at r
   exact r:_)
  exact fX C i aq hs j a.eR (ala aw sh 1e2 k (k+1) _ t s n v) (ac (amN s x.1 h) (25 q (Dh h e.2 x.1 p).2.1 (Xa m e.2) 24e7)) r (162 H (90 (fY (show¬(lm t<5e2+n) by exact K.AA h)) hm (25 q (Dh h e.2 x.1 p).2.1 (Xa m e.2) 24e5))) 13e8 (u sh _ ns _ C.h3 hs j a)
 ·have a:ef [.x] [44e6]:=⟨19e7,d2⟩;exact 124 i aq a.eR (ak9 aw sh 1e2 k (k+1) _ t s n v) (24 (amO s x.1 h) 24e5) (λmL=>alZ aw 1e6 _ t s n v) (162 H (24 (eF (show(lm t<(5e2).aL 1+n) by rw[l];exact K.jX.mp h)) 24e5)) (u sh _ ns _ C.h3 5e3 C.apx.up a)
def amU{t:K}(e:7e3){v w x:V}(l:128 w)(f:KV 22e3 v)(app:128 x)(C:18 [33e6,1e1])(d:7e4)(h0:14e1)(c:32e1):48 [w,v,x]:=by
 show ik l λn r=>?_;show ik app λa h=>?_;have m:=(C.apx.tb e).2;have q:=wj e;by_cases s:a+n<=5e2
 ·have p:(dN [v] n).U=n.aJ:=zh v n;have hs:72 (32e8 t (205 10e3 (dN [v] n))):=5e3;have j:82 (32e8 t (205 10e3 (dN [v] n))) (k+1):=405 e ((C.apx.tb e).1.bW (eL.br f)) (q7 _ _ h.1 r.1 s p) m;have i:jO n=true:=W9 r.1 (wh m q.2 h.1 s);have u:=λmL:4e8=>(by
   have u:=al2 aw 1e6 (1e7++[(131,.X [33e6,1e1])]) t e n a v
   rw[Di _ r.1 p]at u
   exact u:_)
  exact fX C d aq hs j (λo=>rfl) (alc aw sh 1e2 k (k+1) _ t e n a v) (25 (185 h.1 r.1 s) i (zg m q.2 h.1 s p) (Dg m q.2 h.1 r.1 s p)) u (λmL=>(25 (fY (show¬5e2<a+n by exact K.AA s)) i (zg m q.2 h.1 s p) (amM (b:=1e6) e h.1 r.1 p s (wh m q.2 h.1 s)))) 13e8 (c sh _ ns [] C.h3 hs j d2)
 ·exact 242 aq (λo=>rfl) (alb aw sh 1e2 k (k+1) _ t e n a v) (245 ⟨h.1,r.1,53e0⟩) (al1 aw 1e6 _ t e n a v) (162 (eF 53e0) a5)
def amV{i:K}(s:16e0)(C:18 [48e9,6e5])(e:7e4)(x:32e1):48 []:=by
 have hs:72 ((1e2).fC i 0e6):=5e3;have h:82 ((1e2).fC i 0e6) (k+1):=by
  rcases s with H|rfl
  ·exact{C.apx.up with e0:= 2e6}
  ·exact{C.apx.up with e1:= 2e6}
 exact fX C e aq hs h (λa=>rfl) (m_edr aw sh 1e2 k (k+1) _ i s) a5 (λmL=>al6 aw 1e6 _ i s) 48e2 13e8 (x sh _ ns [] C.h3 hs h d2)
universe e
def CP.Y(h:CP x app):ee x/\ee app/\kt app=kt x:=by
 rcases h with⟨H,H⟩|⟨H,H⟩|⟨H,H⟩|⟨H,H⟩|⟨H,H⟩<;>exact⟨by unfold ee;decide,by unfold ee;decide,H⟩
def amW(h:IN e t)(b:MB)(s:b.el e=v):b.fC e v=b:=by subst s;rcases h with⟨H,H⟩|⟨H,H⟩|⟨H,H⟩<;>rfl
def c8.el{k:I}{ns:33e1}(apx:20e7){e t:K}(h:IN e t):7e3/\(b.el e= 0e6\/∃l,b.el e= 6 l/\eL 22e3 l/\l.U<=4/\0<l.U):=by
 have h0:b.e0= 0e6\/∃l,b.e0= 6 l/\eL .rf l/\l.U<=4/\0<l.U:=apx.e0.f5 id (by rintro⟨l,a,c,d⟩;exact⟨l,a,c,by exact I.h8 d,by exact I.NX d⟩);have h1:b.e1= 0e6\/∃l,b.e1= 6 l/\eL .rx l/\l.U<=4/\0<l.U:=apx.e1.f5 id (by rintro⟨l,a,c,d⟩;exact⟨l,a,c,bN,by exact I.NX d⟩);rcases h with⟨H,H⟩|⟨H,H⟩|⟨H,H⟩
 ·exact⟨by unfold ee;decide,h0⟩
 ·exact⟨by unfold ee;decide,h0⟩
 ·exact⟨by unfold ee;decide,h1⟩
section
variable{mL:I->aps}{sh:Sh}{b b0:MB}{k:I}{ns:D (K×V)}{ts:D apv}{aD:D V}
def amX(q:CP x app)(R:128 u)(apA:30e2)(apq:128 w)(C:18 [28e5,0 x,17e1])(P:7e4)(h0:14e1)(g:32e1):48 [u,v,w]:=by
 show ik R λn e=>?_;show ik apA λs hs=>?_;show ik apq λa m=>?_;obtain⟨p,l,V⟩:=CP.Y q;have j:=(C.apx.tb p).2;have apw:=(C.apx.tb l).2;have d:=wj p;have W:=wj l;have o:(18e5).U<=16777216:=bN;by_cases i:s+n<=50e9
 ·have c:=(mQ 18e5 hs.1 e.1 i).2;by_cases r:a+n<=54e8
  ·have f:72 (32e8 x (234 (b.tb x) 18e5)):=5e3;have z:82 (32e8 x (234 (b.tb x) 18e5)) (k+1):=405 p ((C.apx.tb p).1.bW (V▸(C.apx.tb l).1.pV)) (q7 _ _ m.1 e.1 r c) j;exact fX C P aq f z (λt=>rfl) (alf aw sh 1e2 k (k+1) _ x app q n s a) (25 (249 e.1 i) (185 m.1 e.1 r) (zg j d.2 m.1 r c) (Dg j d.2 m.1 e.1 r c)) (λmL=>al3 aw 1e6 _ x app q n s a) (231 o (Dj (b:=1e6) (S:=18e5) p m.1 hs.1 e.1 i r (wh j d.2 m.1 r))) 13e8 (g sh _ ns [] C.h3 f z d2)
  ·exact 242 aq (λt=>rfl) (ale aw sh 1e2 k (k+1) _ x app q n s a) (24 (249 e.1 i) (ks ⟨m.1,e.1,show 54e8<a+n by exact K.wl r⟩)) (WO aw 1e6 _ x app q n s a) (231 o (370 18e5 p (r h.2)))
 ·exact 242 aq (λt=>rfl) (ald aw sh 1e2 k (k+1) _ x app q n s a) (245 ⟨hs.1,e.1,show 50e9<s+n by exact K.wl i⟩) (WO aw 1e6 _ x app q n s a) (231 o (370 18e5 p (i h.1)))
def amY(q:IN e t)(apu:128 u)(apx:30e2)(x:128 w)(C:18 [8e7,11e5,1e1])(A:7e4)(h0:14e1)(apE:32e1):48 [u,v,w]:=by
 show ik apu λn r=>?_;show ik apx λs hs=>?_;show ik x λa m=>?_;obtain⟨i,E⟩:=C.apx.el q;have d:=(C.apx.tb i).2;have g:=wj i;have c:∀(P:MB) {v:V},P.el e=v->P.fC e v=P:=λP v h=>amW q P h;rcases E with o|⟨l,o,apA,B,apr⟩
 ·have B:(27e2).U=0:=H;clear B;have apA:eL 22e3 27e2:=λz h=>nomatch h;have f:=c 1e2 o;by_cases j:s+n<=(([]:D V).U:K)
  ·have app:=(mQ 27e2 hs.1 r.1 j).2;by_cases p:a+n<=5e2
   ·have R:72 (32e8 t 49e9):=5e3;have apq:82 (32e8 t 49e9) (k+1):=405 i ((C.apx.tb i).1.bW apA.pV) (q7 _ _ m.1 r.1 p app) d;have hm:=m_tinn2 aw sh 1e2 k (k+1) (32 [8e7,11e5,1e1]) e t q n s a;rw[f]at hm;have x:=λmL:4e8=>(by
     have x:=al5 aw 1e6 (1e7++[(131,.X [8e7,11e5,1e1])]) e t q n s a
     rw[c 1e6 o]at x
     exact x:_)
    exact fX C A aq R apq 48e1 hm (25 (249 r.1 j) (185 m.1 r.1 p) (zg d g.2 m.1 p app) (Dg d g.2 m.1 r.1 p app)) x (λmL=>((39 (Dj (b:=1e6) (S:=27e2) i m.1 hs.1 r.1 j p (wh d g.2 m.1 p))))) 13e8 (apE sh _ ns [] C.h3 R apq d2)
   ·have hm:=alk aw sh 1e2 k (k+1) (32 [8e7,11e5,1e1]) e t q n s a;rw[f]at hm;have x:=λmL:4e8=>(by
     have x:=WQ aw 1e6 (1e7++[(131,.X [8e7,11e5,1e1])]) e t q n s a
     rw[c 1e6 o]at x
     exact x:_)
    exact jg C aq 5e3 C.apx.up h0 48e1 hm (24 (249 r.1 j) (ks ⟨m.1,r.1,show 5e2<a+n from K.jX.mp p⟩)) x (λmL=>((39 (370 27e2 i (p h.2))))) 13e8 av
  ·have apD:(([]:D V).U:K)<s+n:=bN;have hm:=alj aw sh 1e2 k (k+1) (32 [8e7,11e5,1e1]) e t q n s a;rw[f]at hm;have x:=λmL:4e8=>(by
    have x:=WQ aw 1e6 (1e7++[(131,.X [8e7,11e5,1e1])]) e t q n s a
    rw[c 1e6 o]at x
    exact x:_)
   exact jg C aq 5e3 C.apx.up h0 48e1 hm (245 ⟨hs.1,r.1,apD⟩) x (λmL=>((39 (370 27e2 i (j h.1))))) 13e8 av
 ·have apw:(!l.jN)=true:=by cases l with|aR=>exact bL apr aq|aQ _ _=>rfl
  have W:l.U<=16777216:=bN;have f:=c 1e2 o;by_cases j:s+n<=(l.U:K)
  ·have app:=(mQ l hs.1 r.1 j).2;by_cases p:a+n<=5e2
   ·have R:72 (32e8 t (320 l)):=5e3;have apq:82 (32e8 t (320 l)) (k+1):=405 i ((C.apx.tb i).1.bW apA.pV) (q7 _ _ m.1 r.1 p app) d;clear apA;have hm:=ali aw sh 1e2 k (k+1) (32 [8e7,11e5,1e1]) e t q n s a l;rw[f]at hm;have x:=λmL:4e8=>(by
     have x:=al4 aw 1e6 (1e7++[(131,.X [8e7,11e5,1e1])]) e t q n s a l
     rw[c 1e6 o]at x
     exact x:_)
    exact fX C A aq R apq 48e1 hm (25 (249 r.1 j) (185 m.1 r.1 p) (zg d g.2 m.1 p app) (Dg d g.2 m.1 r.1 p app)) x (162 apw (24 W (Dj (b:=1e6) (S:=l) i m.1 hs.1 r.1 j p (wh d g.2 m.1 p)))) 13e8 (apE sh _ ns [] C.h3 R apq d2)
   ·have hm:=alh aw sh 1e2 k (k+1) (32 [8e7,11e5,1e1]) e t q n s a l;rw[f]at hm;have x:=λmL:4e8=>(by
     have x:=WP aw 1e6 (1e7++[(131,.X [8e7,11e5,1e1])]) e t q n s a l
     rw[c 1e6 o]at x
     exact x:_)
    exact jg C aq 5e3 C.apx.up h0 48e1 hm (24 (249 r.1 j) (ks ⟨m.1,r.1,show 5e2<a+n from K.jX.mp p⟩)) x (162 apw (24 W (370 l i (p h.2)))) 13e8 av
  ·have apD:(l.U:K)<s+n:=bN;have hm:=alg aw sh 1e2 k (k+1) (32 [8e7,11e5,1e1]) e t q n s a l;rw[f]at hm;have x:=λmL:4e8=>(by
    have x:=WP aw 1e6 (1e7++[(131,.X [8e7,11e5,1e1])]) e t q n s a l
    rw[c 1e6 o]at x
    exact x:_)
   clear o;exact jg C aq 5e3 C.apx.up h0 48e1 hm (245 ⟨hs.1,r.1,apD⟩) x (162 apw (24 W (370 l i (j h.1)))) 13e8 av
universe e
def NY{α β:Type}(f:α->β)(l:8e4)(x app:8e5):(178 l).aj f=178 (l.aj f):=by
 simp only[bE,D.map_take,D.VH,D.fs]
def zi{α β:Type}(f:α->β)(l m:8e4)(x app:8e5):(bW l x app m).aj f=bW (l.aj f) x app (m.aj f):=by
 simp only[bW,D.sB,D.map_take,D.VH,D.fs]
def amZ{α β:Type}(f:α->β)(v:α)(n:K):(dN [v] n).aj f=dN [f v] n:=by
 rw[wi,wi,D.Dk]
def NZ(i:K)(h:0<=i/\i<256):bB 48e0= 14e8:=by
 unfold bB;have:(48e0).aJ=i.aJ:=by rw[be.toNat_ofNat'];exact I.mod_eq_of_lt ((K.C0 h.1).bn h.2)
 rw[bb];have h2:(i.aJ:K)=i:=K.um h.1;rw[h2]
def am0{b:MB}{oc au:0e0}(x:oc.aj dG=(4e2).aj dG){b0:MB}{ex:0e1}:gb 51 (85 b oc au) 30e4 (b2 b0++ex) (b2 b0) 39e6:=by
 show⟨⟨λi o e=>?_,λi h=>?_,λi j s s h=>h,λk v e=>⟨v,wd e,by rw[n8]⟩⟩,λi s=>rfl,I.h8 (ux ..).bi⟩
 ·rw[uv];match i,e with
  |0,e=>exact⟨o,e,H⟩
  |1,e=>
   have e2:aps.az 4e2 true=o:=11e6;subst e2;show⟨37 oc,H,?_⟩;simp only[eJ,yY,x]
  |i+2,e=>exact⟨o,e,H⟩
 ·exact h
def am1{b b':MB}(v:oh b')(w:21 b.B b.B)(e1:b'.B=b.B)(e2:b'.apr=b.apr){k:I}{c:K}{aD:0e0}(m:c∈jS)(s:b.B[k]? =G (.X (1e5::aD))){oc au b7:0e0}(a:oc.aj dG=(36e1).aj dG)(x:21 oc oc)(hs:21 b7 b7){o:2e1}{ca:6e1}{bI:fk}
  (dj:289 1e2 (1e5::aD) au (1e7++[(131,.X (1e5::aD))]) o=202 b' oc b7 (1e7++[(131,.X (1e5::aD))]) ca) (q1:13e1) (IH:LC b' (k+1) b7 bI):LC b k au bI:=by
 have hd:=zc v w s x 45e1 hs 45e1 dj q1;have n:b2 b'=1e7:=by unfold b2;rw[e1,e2]
 have e:=wb (a3:= 24e4) (f:=λi=>i) (fN:=ad b' 0e6 b7) (gc:=1e7) (QP aw b b' oc au b7 aD c m) (λp h=>by rw[D.cZ]at h;exact h▸hd) (am0 a (b0:=b));show y1 (NR s) (NS b _ _) e ?_;unfold LC at IH;rw[e1,n]at IH;exact IH
def N0{l m:I}{a n:K}(r:l=16\/l=32)(b:0<=a)(p:0<=n)(h:a+n<=(l:K))(hm:m=n.aJ):l+m<=16777216:=
 have x:m<=l:=hm▸K.qy.bn (K.dV (K.NT b) h)
 have s:l<=32:=by rcases r with e|e<;>rw[e]<;>decide
 I.dV (I.BF s (I.dV x s)) aq
def N1{l:I}{a n:K}(s:l=16\/l=32)(x:0<=a)(h:a+n<=(l:K)):106 n:=
 K.dV (K.dV (K.NT x) h) (by rcases s with e|e<;>rw[e]<;>decide)
def am2{l:I}{Q n:K}(s:Q=1/\l=16\/Q=2/\l=32)(h0:0<=n)(h:Q+n<=2):(l+(n*16).aJ=16\/l+(n*16).aJ=32)/\jO (n*16)=true/\Q+n<=3/\(0<=n*16/\n*16<=16777216)/\l+(n*16).aJ<=16777216/\(n*16).aJ<=16777216:=by
 rcases s with⟨H,H⟩|⟨H,H⟩
 ·have:n=0\/n=1:=bN;rcases bb with H|rfl<;>decide
 ·have:n=0:=bN;subst bb;decide
section
variable{mL:I->aps}{sh:Sh}{b b0:MB}{k:I}{ns:D (K×V)}{ts:D apv}{aD:D V}
def am3{b':MB}{x:33e1}{au b7:0e0}{c:K}{r:0e0}{o:2e1}{o2:4e8->2e1}{ca:6e1}{s:4e8->6e1}{oc:4e8->0e0}(C:18 (1e5::r))(a:7e4)(e:c∈jS)(hs:34e9)(m:c8 b' (k+1) x)(n:21 b7 b7)
  (dj:303 (k+1) (1e5::r) au (1e5::r) o=ea (b1 sh b' (k+1) b7) (32 (1e5::r)) ca) (ho:13e1)
  (l9:∀mL,289 1e6 (1e5::r) au (1e7++[(131,.X (1e5::r))]) (o2 mL)=202 23e4 32e9 b7 (1e7++[(131,.X (1e5::r))]) (s mL)) (ma:∀mL,∀p∈s mL,p) (q6:∀mL,(32e9).aj dG=(36e1).aj dG) (hof:∀mL,∀f,bQ f 32e9=32e9)
  (IH:apF mL b0 sh b' (k+1) b7):32e0:=
 ze hs (λapu h=>Wz dj ho C.at (zf hs a) h) (λmL hL bI h=>am1 (b:=14e0) (b':=23e4) (m.oj hL) C.apx.B.1 hs.2.1 hs.2.2.2 e C.hr (q6 mL) (hof mL) n (l9 mL) (ma mL) h) IH
def am4(C:18 [0 63])(p:7e4)(a:77 [.x]):48 []:=by
 have r:=C.apx.aO;have e:ef [.x] [2 ((10e2).aL 16)]:=⟨19e7,d2⟩;have x:=λmL:4e8=>(by
  have x:=alL aw 1e6 (1e7++[(131,.X [0 63])])
  rw[D.dZ,D.fs]at x
  exact x:_)
 have s:15 10e2 16=true:=H;have hd:bM ((2:K)<((10e2).aL 16)+0)=false:=by rcases r with h|h<;>rw[h]<;>decide
 exact 124 p aq e.eR (akP aw sh 1e2 k (k+1) _) (24 s (by exact I.cz s)) x (λmL=>(25 s hd (show b.aO.U<=16777216 by lia) (by exact I.cz s))) (a sh _ ns _ C.h3 5e3 C.apx.up e)
def am5{v:V}(z:30e2)(C:18 [17e2])(i:7e4)(u:77 [.x]):48 [v]:=by
 show ik z λn r=>?_;have d:=C.apx.aO;have a:15 10e2 16=true:=H;have q:(10e2).aL 16=1/\b.aO.U=16\/(10e2).aL 16=2/\b.aO.U=32:=by rcases d with h|h<;>rw[h]<;>decide
 generalize p:(b.aO.U:K).aL 16=Q at q;have fR:a9 .f4 n 16=true:=al.tR.bn (.aE (eF aq));have l:((aG b).aO.U:K).aL 16=Q:=p;by_cases e:Q+n<=2
 ·show zv (am2 q r.1 e) λt o a3 c w app=>?_;have hm:=akR aw sh 1e2 k (k+1) (32 [17e2]) n;have s:=λmL:4e8=>(by
   have s:=alN aw 1e6 (1e7++[(131,.X [17e2])]) n
   rw[D.fs]at s
   rw[show((aG (lw mL b)).aO.U:K).aL 16=Q from p]at s
   exact s:_)
  rw[l]at hm;have m:(411 (n*16)).U=(n*16).aJ:=zh _ _;have hs:72 {aG b with aO:=b.aO++D.gj (n*16).aJ (0:be)}:=5e3;have j:82 {aG b with aO:=b.aO++D.gj (n*16).aJ (0:be)} (k+1):={C.apx.up with aO:=by refine(b.aO++D.gj (n*16).aJ (0:be)).U=16\/(b.aO++D.gj (n*16).aJ (0:be)).U=32;rw[D.hP,D.Cz];exact t};have x:ef [.x] [2 Q]:=⟨19e7,d2⟩;exact am3 C i aq hs j x.eR hm (90 a (NE r.1 (show Q+n<=3/\Q+n<=2 from⟨a3,e⟩)) (25 fR (eF c) (show b.aO.U+(D.gj (n*16).aJ (0:be)).U<=16777216 by rw[D.Cz];exact w) 24e5)) s (162 a (90 (127 e) fR (25 o (by rw[m];exact app) (by rw[D.hP,m,D.fs];exact w) 24e5)))
   (λmL=>(by
     refine(4e2++dN [V.y 0 false] (n*16)).aj dG=((b.aO++D.gj (n*16).aJ (0:be)).aj bB).aj dG
     rw[wi,D.sB,D.sB,D.sB,D.Dk,D.Dk,D.Dk]
     rfl))
   (λmL=>(λf=>by rw[wi,lH,D.sB,D.Dk,<-lH,oi];rfl)) (u sh _ ns _ C.h3 hs j x)
 ·have hm:=akQ aw sh 1e2 k (k+1) (32 [17e2]) n;have s:=λmL:4e8=>(by
   have s:=alM aw 1e6 (1e7++[(131,.X [17e2])]) n
   rw[D.fs]at s
   rw[show((aG (lw mL b)).aO.U:K).aL 16=Q from p]at s
   exact s:_)
  rw[l]at hm;have x:ef [.x] [44e6]:=⟨19e7,d2⟩;exact 124 i aq x.eR hm (130 a (NF r.1 (λh=>e h.2)) 24e5) s (162 a (24 (eF (K.jX.mp e)) 24e5)) (u sh _ ns _ C.h3 5e3 C.apx.up x)
def am6{u v w:V}(app:128 u)(f:30e2)(o:128 w)(C:18 [20e8])(t:7e4)(h0:14e1)(c:32e1):48 [u,v,w]:=by
 show ik app λn x=>?_;show ik f λs hs=>?_;show ik o λa r=>?_;have m:=C.apx.aO;have hL:(4e2).U=b.aO.U:=D.fs ..;by_cases p:s+n<=10e2
 ·have j:=(mQ b.aO hs.1 x.1 p).2;by_cases e:a+n<=10e2
  ·have q:72 (365 b.aO):=5e3;have d:=q7 b.aO _ r.1 x.1 e j;have l:82 (365 b.aO) (k+1):=(387 (213 b.aO) (213 b.aO).U d m);exact fX C t aq q l (λi=>rfl) (akW aw sh 1e2 k (k+1) _ n s a) (130 (249 x.1 p) (185 r.1 x.1 e) (N0 m r.1 x.1 e j)) (λmL=>alQ aw 1e6 _ n s a) (162 (aly (b:=1e6) (oc:=[]) (en:= 0e6) (au:=[]) (apt:=4e2) r.1 hs.1 x.1 (390 p) (390 e) (N1 m r.1 e)) a5)
    (λmL=>(by refine 246 4e2=(213 b.aO).aj bB;rw[zi,NY])) (c sh _ ns [] C.h3 q l d2)
  ·exact 242 aq (λi=>rfl) (akV aw sh 1e2 k (k+1) _ n s a) (24 (249 x.1 p) (ks ⟨r.1,x.1,show 10e2<a+n by exact K.wl e⟩)) (WL aw 1e6 _ n s a) (162 (WJ (b:=1e6) (oc:=[]) (en:= 0e6) (au:=[]) (apt:=4e2) (λh=>e (hL▸h.2))) a5)
 ·exact 242 aq (λi=>rfl) (akU aw sh 1e2 k (k+1) _ n s a) (245 ⟨hs.1,x.1,show 10e2<s+n by exact K.wl p⟩) (WL aw 1e6 _ n s a) (162 (WJ (b:=1e6) (oc:=[]) (en:= 0e6) (au:=[]) (apt:=4e2) (λh=>p (hL▸h.1))) a5)
def am7{u v w:V}(c:KV .s8 u)(A:30e2)(apD:128 w)(C:18 [16e1])(apq:7e4)(h0:14e1)(R:32e1):48 [u,v,w]:=by
 (show aN c λn apE e=>?_;try clear c;subst apE);show ik A λs hs=>?_;show ik apD λa q=>?_;have app:=C.apx.aO;have hL:(4e2).U=b.aO.U:=D.fs ..;have apw:340 s=s % 256:=y7 s;have t:s.ah 256=s % 256:=mb s aq;have hr:0<=s % 256/\s % 256<256:=⟨K.ni _ aq,K.og _ aq⟩;have fR:9 s 256=true:=H;have p:∀x:V,(dN [x] n).U=n.aJ:=λx=>zh x n;by_cases j:a+n<=10e2
 ·have l:jO n=true:=by simp only[jO,al.lg,mX];lia
  have f:(dN [42e1] n).U=n.aJ:=zh _ n;have z:=q7 b.aO _ q.1 e.1 j f;have o:72 {aG b with aO:=205 b.aO (dN [42e1] n)}:=5e3;have d:82 {aG b with aO:=205 b.aO (dN [42e1] n)} (k+1):=(387 (205 b.aO (dN [42e1] n)) (205 b.aO (dN [42e1] n)).U z app);have hm:=akT aw sh 1e2 k (k+1) (32 [16e1]) n s a;rw[apw]at hm;have r:=λmL:4e8=>(by
   have r:=alP aw 1e6 (1e7++[(131,.X [16e1])]) n s a
   rw[t,Di _ e.1 (p _)]at r
   exact r:_)
  have m:=λmL:4e8=>(by
   have m:= @C8 36 1 (by unfold G4;decide) 1e6 4e2 0e6 [] 4e2 (dN [2 (s % 256)] n) a n 0 true false 2e7 [(98,6e3),(131,.X [16e1]),(132,10e6),(6,16e1),(113,8 [13e4,13e5,13e6]),(9,0e3),(139,0e8),(42,0e2),(137,6 (dN [2 (s % 256)] n)),(49,0e7)] q.1 (K.eD 0) e.1 (by rw[p];lia) (390 j) bN
   rw[Di _ e.1 (p _)]at m
   exact m:_)
  have W:([s % 256].dM (290 (i<256)))=true:=by
   simp only[D.te,D.all_nil,al.tf,al.lg,mX];exact hr
  have apA:xu [42e1] n=true:=by
   simp only[xu,al.lg,mX];exact⟨⟨(238 bN),bN⟩,H⟩
  exact fX C apq aq o d (λP=>rfl) hm (25 (185 q.1 e.1 j) W apA (show b.aO.U+(dN [42e1] n).U<=_ by lia)) r (λmL=>(25 fR l (by rw[p];lia) (m mL)))
   (λmL=>(by refine 205 4e2 (dN [2 (s % 256)] n)=(205 b.aO (dN [42e1] n)).aj bB;rw[zi,amZ,NZ _ hr])) (R sh _ ns [] C.h3 o d d2)
 ·have l:jO n=true:=by simp only[jO,al.lg,mX];lia
  have r:=λmL:4e8=>alO aw 1e6 (1e7++[(131,.X [16e1])]) n s a;exact jg C aq 5e3 C.apx.up h0 (λP=>rfl) (akS aw sh 1e2 k (k+1) _ n s a) (245 ⟨q.1,e.1,show 10e2<a+n by lia⟩) r (λmL=>(25 fR l (by rw[p];lia) (we (g:=1) (b:=1e6) (oc:=4e2) (en:= 0e6) (au:=[]) (apt:=4e2) (S:=dN [2 (s.ah 256)] n) (by unfold G4;decide) (λh=>j (hL▸h.2))))) 13e8 av
def sG{i:K}(h:16e0)(b:MB){v:V}(s:b.dl i=v):b.fK i v=b:=by subst s;rcases h with H|rfl<;>rfl
def c8.dl(apx:20e7){i:K}(h:16e0):b.dl i= 0e6\/∃l,b.dl i= .ch l/\l.U<=8/\0<l.U:=by
 have h0:b.d0= 0e6\/∃l,b.d0= .ch l/\l.U<=8/\0<l.U:=apx.d0.f5 id (by rintro⟨l,a,c⟩;exact⟨l,a,by exact I.h8 c,by exact I.NX c⟩);have h1:b.d1= 0e6\/∃l,b.d1= .ch l/\l.U<=8/\0<l.U:=apx.d1.f5 id (by rintro⟨l,a,c⟩;exact⟨l,a,bN,by exact I.NX c⟩);rcases h with H|rfl
 ·exact h0
 ·exact h1
def am8{i:K}(e:16e0){u v w:V}(apD:128 u)(apE:30e2)(x:128 w)(C:18 [8e6,6e5])(apq:7e4)(h0:14e1)(R:32e1):48 [u,v,w]:=by
 show ik apD λn r=>?_;show ik apE λs hs=>?_;show ik x λa m=>?_;have c:=C.apx.aO;have hL:(4e2).U=b.aO.U:=D.fs ..;rcases C.apx.dl e with hd|⟨l,hd,apA,apw⟩
 ·have apA:([]:4e9).U=0:=H;clear apA;have W:(27e2).U=0:=H;have j:=sG e 1e2 hd;by_cases q:s+n<=(([]:D be).U:K)
  ·have t:=(mQ ([]:4e9) hs.1 r.1 q).2;have o:s+n<=(([]:D V).U:K):=by exact K.le_def.bn q
   by_cases p:a+n<=10e2
   ·have z:=q7 b.aO _ m.1 r.1 p t;have d:72 (365 ([]:4e9)):=5e3;have app:82 (365 ([]:4e9)) (k+1):=(387 (213 ([]:4e9)) (213 ([]:4e9)).U z c);have hm:=ak2 aw sh 1e2 k (k+1) (32 [8e6,6e5]) i e n s a;rw[j]at hm;have x:=λmL:4e8=>(by
     have x:=alS aw 1e6 (1e7++[(131,.X [8e6,6e5])]) i e n s a
     rw[sG e 1e6 hd]at x
     exact x:_)
    exact fX C apq aq d app 45e3 hm (130 (249 r.1 q) (185 m.1 r.1 p) (N0 c m.1 r.1 p t)) x (λmL=>((39 (C8 (g:=1) (b:=1e6) (oc:=4e2) (en:= 0e6) (au:=[]) (apt:=4e2) (S:=[]) (by unfold G4;decide) m.1 hs.1 r.1 o (390 p) (N1 c m.1 p)))))
     (λmL=>(by refine 246 27e2=(213 ([]:4e9)).aj bB;rw[zi,NY];rfl)) (R sh _ ns [] C.h3 d app d2)
   ·have hm:=ak1 aw sh 1e2 k (k+1) (32 [8e6,6e5]) i e n s a;rw[j]at hm;have x:=λmL:4e8=>(by
     have x:=WN aw 1e6 (1e7++[(131,.X [8e6,6e5])]) i e n s a
     rw[sG e 1e6 hd]at x
     exact x:_)
    exact jg C aq 5e3 C.apx.up h0 45e3 hm (24 (249 r.1 q) (ks ⟨m.1,r.1,show 10e2<a+n from K.jX.mp p⟩)) x (λmL=>((39 (we (g:=1) (b:=1e6) (oc:=4e2) (en:= 0e6) (au:=[]) (apt:=4e2) (S:=[]) (by unfold G4;decide) (λh=>p (hL▸h.2)))))) 13e8 av
  ·have o:(([]:D be).U:K)<s+n:=bN;have hm:=ak0 aw sh 1e2 k (k+1) (32 [8e6,6e5]) i e n s a;rw[j]at hm;have x:=λmL:4e8=>(by
    have x:=WN aw 1e6 (1e7++[(131,.X [8e6,6e5])]) i e n s a
    rw[sG e 1e6 hd]at x
    exact x:_)
   exact jg C aq 5e3 C.apx.up h0 45e3 hm (245 ⟨hs.1,r.1,o⟩) x (λmL=>((39 (425 1 4e2 0e6 [] 4e2 [])))) 13e8 av
 ·have P:(!l.jN)=true:=by cases l with|aR=>exact bL apw aq|aQ _ _=>rfl
  have W:(l.aj bB).U=l.U:=D.fs ..;have j:=sG e 1e2 hd;by_cases q:s+n<=(l.U:K)
  ·have t:=(mQ l hs.1 r.1 q).2;have o:s+n<=((l.aj bB).U:K):=bN;by_cases p:a+n<=10e2
   ·have z:=q7 b.aO _ m.1 r.1 p t;have d:72 (365 l):=5e3;have app:82 (365 l) (k+1):=(387 (213 l) (213 l).U z c);have hm:=akZ aw sh 1e2 k (k+1) (32 [8e6,6e5]) i e n s a l;rw[j]at hm;have x:=λmL:4e8=>(by
     have x:=alR aw 1e6 (1e7++[(131,.X [8e6,6e5])]) i e n s a l
     rw[sG e 1e6 hd]at x
     exact x:_)
    exact fX C apq aq d app 45e3 hm (130 (249 r.1 q) (185 m.1 r.1 p) (N0 c m.1 r.1 p t)) x (231 P (C8 (g:=1) (b:=1e6) (oc:=4e2) (en:= 0e6) (au:=[]) (apt:=4e2) (S:=(l.aj bB)) (by unfold G4;decide) m.1 hs.1 r.1 o (390 p) (N1 c m.1 p)))
     (λmL=>(by refine 246 (l.aj bB)=(213 l).aj bB;rw[zi,NY])) (R sh _ ns [] C.h3 d app d2)
   ·have hm:=akY aw sh 1e2 k (k+1) (32 [8e6,6e5]) i e n s a l;rw[j]at hm;have x:=λmL:4e8=>(by
     have x:=WM aw 1e6 (1e7++[(131,.X [8e6,6e5])]) i e n s a l
     rw[sG e 1e6 hd]at x
     exact x:_)
    exact jg C aq 5e3 C.apx.up h0 45e3 hm (24 (249 r.1 q) (ks ⟨m.1,r.1,show 10e2<a+n from K.jX.mp p⟩)) x (231 P (we (g:=1) (b:=1e6) (oc:=4e2) (en:= 0e6) (au:=[]) (apt:=4e2) (S:=(l.aj bB)) (by unfold G4;decide) (λh=>p (hL▸h.2)))) 13e8 av
  ·have o:(l.U:K)<s+n:=bN;have hm:=akX aw sh 1e2 k (k+1) (32 [8e6,6e5]) i e n s a l;rw[j]at hm;have x:=λmL:4e8=>(by
    have x:=WM aw 1e6 (1e7++[(131,.X [8e6,6e5])]) i e n s a l
    rw[sG e 1e6 hd]at x
    exact x:_)
   clear hd;exact jg C aq 5e3 C.apx.up h0 45e3 hm (245 ⟨hs.1,r.1,o⟩) x (231 P (425 1 4e2 0e6 [] 4e2 (l.aj bB))) 13e8 av
def am9{i:K}(s:16e0)(C:18 [48e7,6e5])(e:7e4)(x:32e1):48 []:=by
 have hs:72 ((1e2).fK i 0e6):=5e3;have h:82 ((1e2).fK i 0e6) (k+1):=by
  rcases s with H|rfl
  ·exact{C.apx.up with d0:= 2e6}
  ·exact{C.apx.up with d1:= 2e6}
 exact fX C e aq hs h (λa=>rfl) (ak3 aw sh 1e2 k (k+1) _ i s) a5 (λmL=>alT aw 1e6 _ i s) 48e2 13e8 (x sh _ ns [] C.h3 hs h d2)
universe e
def ana(m:4e9){a n j:K}(h0:0<=a)(e:0<=j)(x:j<n)(h:a+n<=m.U):dq (m.aj bB) (a+j)=((50 m a (a+n))[j.aJ]?).aj bB:=by
 (show oE (K.NU h0) λi s=>?_;subst s);(show oE (K.NU e) λj s=>?_;subst s);rw[(mQ m h0 bN h).1];refine(m.aj bB)[i+j]? =_;rw[D.n4];refine _=((((m.fi i).fI n.aJ)[j]?).aj bB);rw[D.Nv (by exact K.NA.bn x),D.Wa]
def sH{α:Type}{C:8e4->Prop}{n:I}{l:8e4}(h:l.U=n+1)(g:∀x m,m.U=n->C (x::m)):C l:=by
 cases l with
 |aR=>exact nomatch h
 |aQ x m=>exact g x m (I.hI.cF h)
@[elab_as_elim] def N2 {α:Type} {C:D α->Prop} {l:D α} (h:l.U=1) (g:∀s,C [s]):C l:=sH h λx m h=>by cases D.eq_nil_of_length_eq_zero h;exact g x
@[elab_as_elim] def N3 {α:Type} {C:D α->Prop} {l:D α} (h:l.U=2) (g:∀s e,C [s,e]):C l:=sH h λx m h=>N2 (C:=λm=>C (x::m)) h (g x)
@[elab_as_elim] def N4 {α:Type} {C:D α->Prop} {l:D α} (h:l.U=4) (g:∀e s b a,C [e,s,b,a]):C l:=sH h λx m h=>sH (C:=λm=>C (x::m)) h λapp m h=>N3 (C:=λm=>C (x::app::m)) h (g x app)
@[elab_as_elim] def Xe {α:Type} {C:D α->Prop} {l:D α} (h:l.U=8) (g:∀p b s a r e k n,C [p,b,s,a,r,e,k,n]):C l:=sH h λx m h=>sH (C:=λm=>C (x::m)) h λapp m h=>sH (C:=λm=>C (x::app::m)) h λz m h=>sH (C:=λm=>C (x::app::z::m)) h λw m h=>N4 (C:=λm=>C (x::app::z::w::m)) h (g x app z w)
def anb(l:4e9):0<=gm l/\gm l<256^l.U:=by
 induction l with
 |aR=>exact⟨K.eD 0,aq⟩
 |aQ x l ih=>
  have h:=x.C0;rw[D.m7,K.pow_succ];unfold gm;generalize(256:K)^l.U=p at ih;lia
def anc(x:be)(m:K):a9 .f4 25e6 m=true:=by
 exact al.tR.bn (.a4 (eF (show x.aJ<_ from I.yu x.C0 aq)))
def ane(v apB i:K)(P:K)(e:0<=v)(x:0<=apB)(s:0<=P)(h:v % apB/P % 256=v/P % 256):bB (280 (340 ((v % apB).aL P)))= 38 (v.aL P) 256:=by
 rw[y7,NZ _ ⟨K.ni _ aq,K.og _ aq⟩,mb _ aq,K.NC _ s,K.NC _ s,h]
def anf{b:MB}{a n:K}{r:4e9}{vs:0e0}(x:0<=a)(s:0<=n)(h:a+n<=b.aO.U)(hr:r.U=n.aJ)(p:r.aj bB=vs):mv 4e2 a.aJ vs=(205 b.aO r).aj bB:=by
 subst p;have e:(4e2).U=b.aO.U:=D.fs ..;rw[WC _ _ _ (by rw[e];exact WH x h s (by rw[D.fs,hr])),zi,NP _ _ x s (by rw[e];exact h) (by rw[D.fs,hr])]
def Dl{l m:6e1}(s:∀p∈l,p)(h2:∀p∈m,p):∀p∈l++m,p:=λp h=>(301 h) (s p) (h2 p)
def LU.Y(h:LU c n):kf n/\c∈jS:=by
 rcases h with⟨H,H⟩|⟨H,H⟩|⟨H,H⟩|⟨H,H⟩|⟨H,H⟩|⟨H,H⟩|⟨H,H⟩<;>exact⟨by unfold kf;decide,aq⟩
def ST.Y(h:ST c n):kf n/\c∈jS:=by
 rcases h with⟨H,H⟩|⟨H,H⟩|⟨H,H⟩|⟨H,H⟩|⟨H,H⟩|⟨H,H⟩|⟨H,H⟩<;>exact⟨by unfold kf;decide,aq⟩
def LS.Y(h:LS c n q):kf n/\c∈jS/\∃w h m,LW c n q w h m:=by
 rcases h with⟨H,H,H⟩|⟨H,H,H⟩|⟨H,H,H⟩|⟨H,H,H⟩|⟨H,H,H⟩
 ·exact⟨2e6,aq,_,_,_,.a4 ⟨H,H,H,H,H,H⟩⟩
 ·exact⟨2e6,aq,_,_,_,.aE (.a4 ⟨H,H,H,H,H,H⟩)⟩
 ·exact⟨15e6,aq,_,_,_,79 (.a4 ⟨H,H,H,H,H,H⟩)⟩
 ·exact⟨15e6,aq,_,_,_,.aE (79 (.a4 ⟨H,H,H,H,H,H⟩))⟩
 ·exact⟨36e8,aq,_,_,_,259 ⟨H,H,H,H,H,H⟩⟩
def wm(xs:4e9)(i:I):be:=(xs[i]?).ge 0
def N5{d:I}{n:K}(e:kf n){xs:4e9}(h:xs.U=n.aJ):58 aw (d+1) 447 [.ei xs] 20e4:=by
 rcases e with H|rfl|rfl|rfl
 ·exact N2 h λs=>akr
 ·exact N3 h λs x=>aks
 ·exact N4 h λs x a b=>akt
 ·exact Xe h λs x a b p r k m=>aku
def Xf{n:K}(b:kf n){xs:4e9}(h:xs.U=n.aJ):smB n (wm xs)=20e4:=by
 rcases b with H|rfl|rfl|rfl
 ·show N2 h λs=>?_;refine [((s.aJ:K)*1)].lh=_;simp only[gm,D.N6,D.N7];exact Eq.bi (K.BQ (↑s.aJ) (256*0))
 ·show N3 h λs x=>?_;refine [((s.aJ:K)*1),(25e6*256)].lh=_;simp only[gm,D.N6,D.N7];lia
 ·show N4 h λs x e a=>?_;refine [((s.aJ:K)*1),(25e6*256),((e.aJ:K)*65536),((a.aJ:K)*16777216)].lh=_;simp only[gm,D.N6,D.N7];lia
 ·show Xe h λs x e a p r k m=>?_;refine [((s.aJ:K)*1),(25e6*256),((e.aJ:K)*65536),((a.aJ:K)*16777216),((p.aJ:K)*4294967296),((r.aJ:K)*1099511627776),((k.aJ:K)*281474976710656),((m.aJ:K)*72057594037927936)].lh=_;simp only[gm,D.N6,D.N7];lia
def N8{n:K}(r:kf n){p:K}(a:0<=p)(h:p+n<=b.aO.U){xs:4e9}(e:50 b.aO p (p+n)=xs):∀q∈za n b p (wm xs),q:=by
 intro q s;have m:0<=n:=by unfold kf at r;lia
 unfold za at s;rcases 48e5 with H|s
 ·exact fY (368 (K.dv.bn h))
 show aN (D.Lh.mp s) λi x s=>?_;rw[D.CR]at x;simp only[D.eS,D.mq,mr]at s;rcases s with H|rfl
 ·have k:i<xs.U:=by rw[<-e,(mQ b.aO a m h).2];exact x
  clear s;rw[ana b.aO a (K.nU i) (by exact K.NA.mp x) h,e,K.tp];unfold wm;rw[D.ie k];rfl
 ·exact anc _ _
def Xg(h:LS c n q):58 aw (d+2) 105 [6e6,0 (8*n),10e7] (m4 x (8*n) q):=by
 rcases h with⟨H,H,H⟩|⟨H,H,H⟩|⟨H,H,H⟩|⟨H,H,H⟩|⟨H,H,H⟩
 ·exact akv
 ·exact akx
 ·exact akw
 ·exact aky
 ·exact akz
def zj{app w h m:K}(h0:0<=app/\app<w)(hm:w<=m):(if h<=app % w then(app % w-w) % m else app % w)=if h<=app then app-w+m else app:=by
 rw[K.Ws h0.1 h0.2];split
 ·rw[<-K.add_emod_right (app-w) m];exact K.Ws bN bN
 ·rfl
def ang{c n q w h m x:K}(b:LW c n q w h m){xs:4e9}(e:xs.U=n.aJ)(a:20e4=x):m4 x (8*n) q=if h<=x then x-w+m else x:=by
 subst a;have s:=anb xs;rw[e]at s;clear e;rcases b with⟨H,H,H,H,H,H⟩|⟨H,H,H,H,H,H⟩|⟨H,H,H,H,H,H⟩|⟨H,H,H,H,H,H⟩|⟨H,H,H,H,H,H⟩
 ·exact zj (w:=256) (h:=128) (m:=4294967296) s aq
 ·exact 417 256 128 s
 ·exact zj (w:=65536) (h:=32768) (m:=4294967296) s aq
 ·exact 417 65536 32768 s
 ·exact 417 4294967296 2147483648 s
def anh(p:K)(x:0<=p)(g:I->V)(r:I):∀(s:I) (apt:0e0),(D.range' s r).i9 (λl (i:I)=>D.cN l (p+i).aJ (g i)) apt=mv apt (p.aJ+s) ((D.range' s r).aj g):=by
 induction r with
 |i5=>exact λe e=>rfl
 |hI r h=>
  intro s apt;rw[D.range'_succ,D.ME,D.nZ,h (s+1),show(p+s).aJ=p.aJ+s from K.alt x s];rfl
def Xh(p:K)(g:I->V):∀(r:D I) (apt:0e0),(r.i9 (λl (i:I)=>D.cN l (p+i).aJ (g i)) apt).U=apt.U
 | [],apt=>rfl
 |i::r,apt=>by rw[D.ME,Xh p g r,D.vO]
def ani(s:kf n)(v:K):Builtin.i8 v (Km n)=v % (256^n.aJ):=by
 rcases s with H|rfl|rfl|rfl
 ·exact y7 v
 ·exact Wt v
 ·exact C2 v
 ·exact y3 v
def bm(e:0<=v)(s:i<n):v % (256^n:K)/(256^i:K) % 256=v/(256^i:K) % 256:=by
 (show oE (K.NU e) λm x=>?_;subst x);have h:m % 256^n/256^i % 256=m/256^i % 256:=by
  obtain⟨k,H⟩:∃k,n=i+(k+1):=I.exists_eq_add_of_lt s;clear s;rw[I.pow_add,I.mod_mul_right_div_self];exact I.mod_mod_of_dvd _ ⟨256^k,by rw[I.pow_succ,I.R8]⟩
 have h:=bC (I.cast (R:=K)) h;simp only[K.Wj,K.natCast_ediv,K.Wm]at h;exact h
def anj(x:kf n)(s:0<=v)(h:i<n.aJ):bB (280 (pJ n v i))= 38 (v.aL (256^i)) 256:=by
 unfold pJ;rw[ani x,K.pow_mul,show(2:K)^8=256 from H];exact ane v (256^n.aJ) 0 (256^i) s (K.CZ aq) (K.CZ aq) (bm s h)
def ank{n v p:K}(s:kf n)(a:0<=v){b:MB}(x:0<=p)(h:p+n<=b.aO.U):zb n b p v n.aJ=(bW b.aO 5e1 (G (p+n)) ((36e5).aj λi=>280 (pJ n v i))).aj bB:=by
 have r:0<=n:=by unfold kf at s;lia
 rw[<-anf (b:=b) (vs:=(36e5).aj λi=> 38 (v.aL (256^i)) 256) x r h (by rw[D.fs,D.VG])]
 ·unfold zb;rw[D.range_eq_range',anh p x];rfl
 ·rw[D.rC];exact D.yD λi e=>anj s a (D.CR.mp e)
def anl(v:K)(i:I)(h:i<8):15 v (256^i)=true:=D.iw.mp (show(D.dS 8).dM (λi=>15 v (256^i))=true by kernel_rfl) i (D.CR.bn h)
def anm(n v:K)(i:I):0<=pJ n v i/\pJ n v i<256:=by
 unfold pJ;rw[y7];exact⟨K.ni _ aq,K.og _ aq⟩
section
variable{mL:I->aps}{sh:Sh}{b b0:MB}{k:I}{ns:D (K×V)}
def Xi(s:LU c n\/∃q,LS c n q)(x:kf n)(e:c∈jS)(r:0<=a+o)(h:¬a+o+n<=10e2)(C:18 [1e5,0e7,12e6])(h0:14e1):48 [0e2]:=by
 have p:0<=n:=by unfold kf at x;lia
 have hm:=m_ldx aw sh 1e2 k (k+1) (32 [1e5,0e7,12e6]) c n a o s;exact 242 (54 e) (λm=>rfl) hm (245 ⟨r,p,K.jX.mp h⟩) (amf aw 1e6 _ c n a o s) (λmL=>39 (eF (368 (K.jX.mp h))))
def ano(e:LU c n)(f:0<=o)(j:30e2)(C:18 [1e5,0e7,12e6])(l:7e4)(h0:14e1)(i:77 [.x]):48 [v]:=by
 show ik j λa d=>?_;show oA e.Y λs m=>?_;have q:0<=n:=by unfold kf at s;lia
 have x:0<=a+o:=bN;by_cases r:a+o+n<=10e2
 ·have p:=(mQ b.aO x q r).2;generalize u:bE b.aO (G (a+o)) (G (a+o+n))=xs at p;have w:ef [.x] [2 20e4]:=⟨19e7,d2⟩;have hm:=m_ld aw sh 1e2 k (k+1) (32 [1e5,0e7,12e6]) c n a o xs e;have h:=λmL:4e8=>(by
   have h:=amg aw 1e6 (1e7++[(131,.X [1e5,0e7,12e6])]) c n a o (wm xs) e
   rw[Xf s p]at h
   exact h:_)
  exact 124 l m w.eR hm (25 (185 x q r) u (N5 s p) 24e7) h (λmL=>Dl (N8 (b:=1e6) s x r u) (39 24e7)) (i sh _ ns _ C.h3 5e3 C.apx.up w)
 ·exact Xi (.a4 e) s m x r C h0
def anp(i:LS c n q)(V:0<=o)(apq:30e2)(C:18 [1e5,0e7,12e6])(R:7e4)(h0:14e1)(P:77 [.x]):48 [v]:=by
 show ik apq λa apA=>?_;(show hV i.Y λr app S=>?_;show np S λw h m g=>?_;try clear S);have z:0<=n:=by unfold kf at r;lia
 have p:0<=a+o:=bN;by_cases u:a+o+n<=10e2
 ·have l:=(mQ b.aO p z u).2;generalize f:bE b.aO (G (a+o)) (G (a+o+n))=xs at l;have e:=ang g l H;have e2:=Xf r l;have j:ef [.x] [2 (m4 20e4 (8*n) q)]:=⟨19e7,d2⟩;have hm:=m_lds aw sh 1e2 k (k+1) (32 [1e5,0e7,12e6]) c n q a o xs i;by_cases t:h<=20e4
  ·rw[eY t]at e;have s:=λmL:4e8=>(by
    have s:=amh aw 1e6 (1e7++[(131,.X [1e5,0e7,12e6])]) c n q w h m a o (wm xs) g
    rw[e2,<-e]at s
    exact s:_)
   exact 124 R app j.eR hm (ac (185 p z u) (25 f (N5 r l) (Xg i) 24e7)) s (λmL=>Dl (N8 (b:=1e6) r p u f) (24 (eF t) 24e7)) (P sh _ ns _ C.h3 5e3 C.apx.up j)
  ·rw[d6 t]at e;rw[e]at j hm;have s:=λmL:4e8=>(by
    have s:=ami aw 1e6 (1e7++[(131,.X [1e5,0e7,12e6])]) c n q w h m a o (wm xs) g
    rw[e2]at s
    exact s:_)
   exact 124 R app j.eR hm (ac (185 p z u) (90 f (N5 r l) (ac (by have h:=Xg (d:=32) (x:=20e4) i;rw[e]at h;exact h) (39 24e7)))) s (λmL=>Dl (N8 (b:=1e6) r p u f) (24 (fY t) 24e7)) (P sh _ ns _ C.h3 5e3 C.apx.up j)
 ·exact Xi (.aE ⟨q,i⟩) r app p u C h0
def anq{l:I}{n:K}(h:l=16\/l=32)(s:n<=8):l+n.aJ<=16777216:=
 I.dV (I.BF (by rcases h with e|e<;>rw[e]<;>decide:l<=32) (K.qy.bn s:n.aJ<=8)) aq
def anr{c n o x:K}{v:V}(e:ST c n)(apE:0<=o)(apw:30e2)(R:0<=x)(C:18 [1e5,0e7,12e6])(W:7e4)(h0:14e1)(apA:32e1):48 [6e6,v]:=by
 show ik apw λa apD=>?_;show oA e.Y λd f=>?_;have m:0<=n/\n<=8:=by unfold kf at d;lia
 have w:0<=a+o:=bN;have t:=C.apx.aO;by_cases s:a+o+n<=10e2
 ·generalize hr:((D.dS n.aJ).aj λi=>be.cg (pJ n x i).aJ)=r;have apq:r.U=n.aJ:=by rw[<-hr,D.fs,D.VG]
  have S:=q7 b.aO r w m.1 s apq;have app:72 {aG b with aO:=bW b.aO (G (a+o)) (G (a+o+n)) r}:=5e3;have z:82 {aG b with aO:=bW b.aO (G (a+o)) (G (a+o+n)) r} (k+1):=(387 (bW b.aO (G (a+o)) (G (a+o+n)) r) (bW b.aO (G (a+o)) (G (a+o+n)) r).U S t);have hm:=m_st aw sh C.h3 1e2 k (k+1) (32 [1e5,0e7,12e6]) c n a x o e;rw[hr]at hm;exact amu C W f app z (λu=>rfl) hm (ac (185 w m.1 s) (Dl (λp h=>by
   (show aN (D.sr.mp h) λi u l=>?_;subst l)
   refine bM ((0:K)<=8*(i:K))=true
   exact eF (K.Wl aq (K.nU i))) (ac (by
    rw[D.iw]
    intro j g
    (show aN (D.sr.mp g) λi u l=>?_;subst l)
    clear g
    have:=anm n x i
    simp only[al.lg,mX];exact bb) (39 (anq t m.2))))) (λmL=>amk aw 1e6 _ c n a x o e) (λmL=>ac (fY (368 (K.dv.bn s))) λp h=>by
    show aN (D.Lh.mp h) λi q h=>?_
    rw[D.CR]at q
    simp only[D.eS,D.mq,mr]at h
    have P:i<8:=I.mH q (K.qy.bn m.2)
    rcases h with H|rfl|rfl
    ·exact anl _ i P
    ·rfl
    ·show eF ⟨K.Wo w (K.nU i),?_⟩
     clear h
     unfold zb
     rw[Xh,D.fs]
     exact K.mH (K.add_lt_add_left (K.NA.mp q) _) s) (λmL=>by rw[<-hr];exact ank (b:=1e6) d R w s) (apA sh _ ns [] C.h3 app z d2)
 ·have hm:=m_stx aw sh 1e2 k (k+1) (32 [1e5,0e7,12e6]) c n a x o e;exact 242 (54 f) (λu=>rfl) hm (245 ⟨w,m.1,53e0⟩) (amj aw 1e6 _ c n a x o e) (λmL=>39 (eF (368 53e0)))
universe e
def Xj(h:15e0):hq (y9 sh):=by
 rcases h with H|rfl|rfl
 ·exact 15e6
 ·exact 15e6
 ·exact 79 H
def fo(b:MB)(f:K)(v:V):MB:={aG b with no:=b.no++[.X [0 f,6 [v]]],nl:=b.nl++[.X [0 f,8 [v]]]}
def c8.fo{k:I}{ns:33e1}(apx:20e7){f:K}{v:V}(s:KV .x v):c8 (fR sh (Internal.fo b f v) [v]) (k+1) (ns++[(f,v)]):=by
 have x:c8 (Internal.fo b f v) (k+1) (ns++[(f,v)]):={apx.up with
  no:=by refine b.no++_=_;rw[apx.no,D.sB];rfl
  nl:=by refine b.nl++_=_;rw[apx.nl,D.sB];rfl
  ns:=⟨λp r=>by
   rcases D.lL.mp r with h|h
   ·exact apx.ns.1 p h
   ·rw[D.cZ]at h;subst h;exact s,by rw[D.hP];exact I.TQ apx.ns.2 1⟩}
 cases sh with
 |a=>exact{x with g:=λw e=>by cases(D.cZ.mp (show w∈ [v]from e));exact s}
 |b m E=>exact x
def bu.fo(b:MB)(f:K)(v:V):72 (Internal.fo b f v):=5e3
def bu.fR(h:34e9)(sh:Sh)(F:0e0):72 (fR sh b' F):=by cases sh<;>exact h
section
variable{mL:I->aps}{sh:Sh}{b b0:MB}{k:I}{ns:D (K×V)}{ts:D apv}{aD:D V}
def Xk:vq sh (fo b f v) k1 s0 s d=vq sh {aG b with no:=(1e2).no++[.X [0 f,6 [v]]]} k1 s0 s d:=by cases sh<;>rfl
def Xl:85 (183 (fo b f v)) 4e2 s=ad {aG (14e0)with nl:=(1e6).nl++[.X [0 f,8 [v]]]} 0e6 s:=H
def c8.N9(apx:20e7):b.no.U=ns.U/\b.nl.U=ns.U:=by rw[apx.no,apx.nl,D.fs,D.fs];exact 15e2
def ans{f:K}(h:f=1\/f=2\/f=3\/f=4){v:V}(a:KV q v)(C:18 [4e0,0 f])(r:7e4)(e:32e1):48 [v]:=by
 have h1:=C.apx.N9;have h2:=C.apx.ns.2;have h3:=C.apx.B.2;have hm:=m_host aw sh C.h3 1e2 k (k+1) (32 [4e0,0 f]) f h v;rw[<-Xk]at hm;have s:=λmL:4e8=>(by
  have s:=ame aw 1e6 (1e7++[(131,.X [4e0,0 f])]) f h v
  rw[<-Xl]at s
  exact s:_)
 have x:c8 (fR sh (fo b f v) [v]) (k+1) (ns++[(f,v)]):=C.apx.fo a.x;exact W7 C r aq (bu.fo b f v) x (λp=>rfl) hm (25 bN bN (363 b.no.U) bN) s (λmL=>39 (363 b.nl.U)) 13e8 (e (y9 sh) _ _ [] (Xj C.h3) ((bu.fo b f v).fR sh [v]) x d2)
universe e
def Dm(b:MB)(h:b.apr=v):({b with apr:=v}:MB)=b:=by rw[<-h]
def Xm(b:MB)(apw:K)(h:b.apr=v):({b with apr:=v,pk:=apw}:MB)={b with pk:=apw}:=by rw[<-h]
def Xn(x:K):361 x=true:=H
def ant(h:b.apr=3)(T:0e1)(fa s:K):264 aw b [4e0,3e8] [0e8,13e3] []=46 {b with gw:=(b.gw+4)} [362 (s+b.fc)] [361 (s+b.fc)=true,1<=16777216]:=by
 rw[h];exact al7 aw b T fa s
def anu(h:b.apr=1)(T:0e1)(fa s:K):264 aw b [4e0,3e8] [0e8,13e3] []=c6 0e6 (ad b (.X [25e3,14e5]) [0e8,13e3]) T []:=by
 rw[h];exact al8 aw b T fa s
def q8(sh:Sh)(b:MB)(cO:0e0):MB:={fR sh (393 (1e2).pk) cO with gw:=(1e2).gw+4}
def bu.q8:72 (Internal.q8 sh b cO):=by cases sh<;>exact⟨H,H,H,H⟩
def c8.q8{k:I}{ns:33e1}(apx:20e7){cO:0e0}(s:eL .x cO):82 (Internal.q8 sh b cO) (k+1):=by
 have h:=apx.up;cases sh with
 |a=>exact⟨h.aO,h.T0,h.T1,h.T2,h.c0,h.c1,h.c2,h.e0,h.e1,h.d0,h.d1,h.no,h.nl,h.ns,h.fc,h.apr,s,h.B⟩
 |b x E=>exact⟨h.aO,h.T0,h.T1,h.T2,h.c0,h.c1,h.c2,h.e0,h.e1,h.d0,h.d1,h.no,h.nl,h.ns,h.fc,h.apr,h.g,h.B⟩
def c8.anv{k:I}{ns:33e1}(apx:20e7)(hm:ku 62 b.m){cO:0e0}(h:eL .x cO):l7 (fR sh (393 (1e2).pk) cO):=by
 cases sh with
 |a=>
  have s:82 {aG b with pk:=jq (1e2).pk 2,g:=cO} (k+1):={apx.up with g:=h};exact s.wf hm
 |b x E=>
  have s:82 (393 (1e2).pk) (k+1):={apx.up with};exact s.wf hm
def anw{mL:4e8}:ad (183 (q8 sh b cO)) 0e6 s=ad {aG (14e0)with gw:=(1e6).gw+4} 0e6 s:=by cases sh<;>rfl
section
variable{mL:I->aps}{sh:Sh}{b b0:MB}{k:I}{ns:D (K×V)}{c:K}{r au cO:D V}{fa fb:K}{o:D cq}{o2:(I->aps)->D cq}{ca:D Prop}{nn:(I->aps)->D Prop}
def Xo(n:w= 2 (326 fb b.fc))(C:18 (1e5::r))(q:7e4)(v:c∈jS)(m:eL .x cO)
  (dj:303 (k+1) (1e5::r) au (1e5::r) o=ea (pK sh (393 (1e2).pk) (k+1) cO fa fb true) (32 (1e5::r)) ca) (ho:13e1)
  (l9:∀mL,289 1e6 (1e5::r) au (1e7++[(131,.X (1e5::r))]) (o2 mL)=151 0e6 {aG (14e0)with gw:=(1e6).gw+4} [w] (1e7++[(131,.X (1e5::r))]) (nn mL)) (ma:46e7)
  (IH:77 [.j4]):32e0:=by
 subst n;have s:ef [.j4] [2 (326 fb b.fc)]:=⟨⟨_,H,K.ni _ aq,K.og _ aq⟩,d2⟩;have hs:72 (q8 sh b cO):= .q8;have x:=C.apx.q8 (sh:=sh) m;have h3:hq (.b hj js):= 79 H;show ze (c:=5) hs (λapu h=>?_) (λmL hL bI h=>?_) (IH (.b hj js) _ ns _ h3 hs x s)
 ·have:=aml C.h3 (C.apx.anv C.hm m) dj ho C.at (zf (show 72 (393 (1e2).pk)from⟨H,H,H,H⟩) q) h;have e:(212 (dn+1+4))=λdn=>apu (dn+5):=y8 λdn=>by rw[K.Wp];rfl
  exact e▸bb
 ·have a:=l9 mL;rw[<-anw (sh:=sh) (cO:=cO)]at a;exact Da (b:=14e0) (b':=183 (q8 sh b cO)) (x.oj hL) C.apx.B.1 hs.2.1 hs.2.2.2 v C.hr H (s.eR) a (ma mL) h
def Xp(C:18 (1e5::r))(a:c=16\/c=17)(h0:14e1)(h:21 cB cB)
  (dj:fU (303 (k+1) (1e5::r) au (1e5::r) o)=gy (276 (k+1) []).U (139 1e2 (k+1) anx 63 [(58,14e5)]) ca) (ho:13e1)
  (l9:∀mL,289 1e6 (1e5::r) au (1e7++[(131,.X (1e5::r))]) (o2 mL)=c6 0e6 (ad 1e6 (.X [25e3,14e5]) cB) (1e7++[(131,.X (1e5::r))]) (nn mL)) (ma:46e7):32e0:=by
 have s:82 1e2 (k+1):=C.apx.up;have cR:∀mL,ku 51 mL->LC 14e0 k au (.Y (307 [25e3,14e5]) (dc 49e8 4e2 (.X [25e3,14e5]) cB) 1e7):=λmL hL=>by
  have hd:=zc (b:=14e0) (b':=49e8) (s.oj hL) C.apx.B.1 C.hr (oi b.aO) (λx=>rfl) h (λx=>rfl) (l9 mL) (ma mL);exact Db (b:=14e0) (b':=49e8) (w:= .X [25e3,14e5]) (s.oj hL) C.apx.B.1 C.hr (oi b.aO) (en:= .X [25e3,14e5]) (λx=>rfl) h (adj aw 14e0 49e8 4e2 au cB r c a) (39 hd)
 show⟨_,_,.X [25e3,14e5],cB,1e2,k+1,ns,WA C.h3 dj H ho C.at,cR,79 ⟨H,sh,k+1,anx,C.h3,?_⟩,s,?_⟩
 ·have e:(276 (k+1) []).U=(276 49e1 []).U:=by
   clear dj;rcases C.h3 with H|rfl|rfl<;>rfl
  clear C;rw[e]
 ·exact⟨h0.1.bi,h0.2.1.bi,h0.2.2.1.bi,h0.2.2.2.bi,λx=>rfl,h⟩
universe e
section
variable{mL:I->aps}{sh:Sh}{b b0:MB}{k:I}{ns:D (K×V)}
def KV.Xq(a:KV .j4 v)(e:128 w):eL .x [v,w]:=λx s=>by
 rcases 48e5 with H|h
 ·exact a.x
 ·rw[D.cZ]at h;subst h;exact e.x
def any(a:KV .j4 v)(x:128 w)(C:18 [4e0,3e8])(p:7e4)(h0:14e1)(r:77 [.j4]):48 [v,w]:=by
 have m:=a.Xq x;(show aN a λfb e u=>?_;try clear a;subst e);(show aN x λfa e n=>?_;try clear x;subst e);rcases C.apx.apr with s|s
 ·have hm:=m_far1 aw sh C.h3 1e2 k (k+1) (32 [4e0,3e8]) fa fb;have h:=λmL:4e8=>anu (b:=1e6) s (1e7++[(131,.X [4e0,3e8])]) fa fb;rw[Dm 1e2 s]at hm;exact Xp C 2e6 h0 (λq=>rfl) hm a5 h 48e2
 ·have hm:=m_far3 aw sh C.h3 1e2 k (k+1) (32 [4e0,3e8]) fa fb;rw[Dm 1e2 s,Xm 1e2 _ s]at hm;have h:=λmL:4e8=>(by
   have h:=ant (b:=1e6) s (1e7++[(131,.X [4e0,3e8])]) fa fb
   rw[mb _ aq]at h
   exact h:_)
  exact Xo H C p aq m hm 40e8 h (231 (Xn _) bN) r
universe e
section
variable{mL:I->aps}{sh:Sh}{b b0:MB}{k:I}{ns:D (K×V)}
def anz(C:18 [21e2])(i:k+1=b.B.U)(h0:14e1):48 []:=by
 (show np (alq (m_fin aw sh 1e2 k (k+1) (32 [21e2]) []) a5 C.at (amt 5e3 i)) λS q v n=>?_;show aN n λaD s m=>?_;try clear n);have p:82 1e2 (k+1):=C.apx.up;have u:∀mL,ku 51 mL->LC 14e0 k [] (.Y (307 [28e7,5e7]) (85 49e8 4e2 []) 1e7):=λmL hL=>Db (b:=14e0) (b':=49e8) (w:= .X [28e7,5e7]) (p.oj hL) C.apx.B.1 C.hr (oi b.aO) (en:= 0e6) (b7:=[]) 45e1 45e1 (adl aw 14e0) a5;show⟨_,.X [28e7,5e7],0e6,[],1e2,k+1,ns,m,u,.a4 ⟨H,S,q,_,[],v,aD,1,H,?_⟩,p,⟨h0.1.bi,h0.2.1.bi,h0.2.2.1.bi,h0.2.2.2.bi,λr=>rfl,λr=>rfl⟩⟩;clear m;rcases C.h3 with H|rfl|rfl
 ·(show lJ s λh x a e=>?_;try clear s;subst h;clear x;subst a;subst e);clear C;exact .a4 ⟨H,H,H⟩
 ·(show lJ s λh x a e=>?_;try clear s;subst h;clear x;clear a;subst e);exact .aE ⟨H,_,_,2e6,2e6,H⟩
 ·(show lJ s λh x a e=>?_;try clear s;subst h;clear x;clear a;subst e);exact .aE ⟨H,_,_,2e6,21e5,H⟩
universe e
def Xr{F:MS}:kW F (5 1213):=17e5
section
variable{mL:I->aps}{sh:Sh}{b b0:MB}{k:I}{ns:D (K×V)}
def Oa{ca:6e1}(dj:fU (vt aw sh b k1 bx au T o)=gy i O ca)(s:13e1):aw 35 (272 [7e9,3e7,bx]) (101 b au) T (.a8 i O gR):=Nz dj s Xr
def Dn{ca:6e1}(dj:vt aw sh b k1 bx au T o=QF v O gR ca)(s:13e1):123 35 (272 [7e9,3e7,bx]) (101 b au) T v O gR:=iZ dj s Xr
def six(h:0<=app/\app<6):Y6 app:=by unfold Y6;lia
def c8.tb2(apx:20e7)(s:19e3):eL .rf 10e3:=by
 rcases s with H|rfl
 ·exact apx.T0.1
 ·exact apx.T2.1
def anA(s:Q3 q)(h:app=0\/app=1\/app=2\/app=3\/app=4\/app=5)(x:31e3=q):app=0\/app=2\/app=3:=by
 subst x;rcases h with H|rfl|rfl|rfl|rfl|rfl
 ·exact 2e6
 ·exact 55e4
 ·exact 15e6
 ·exact 79 H
 ·exact 55e4
 ·exact 55e4
def Oc{c q t a:K}{F:0e0}(r:vo c)(u:Q3 q)(h:19e3)(j:0<=a)(i:21 F F)(C:18 [1e5,10e7,1e1])(h0:14e1)
  (hx:∀z,∃o ca,fU (303 (k+1) [1e5,10e7,1e1] (0e2::F) [1e5,10e7,1e1] o)=gy (276 (k+1) []).U (139 1e2 (k+1) F 51 [(58,7e8)]) ca/\
   ((∀gR,aw 35 (272 [7e9,3e7,.X [1e5,10e7,1e1]]) (276 (k+1) (0e2::F)) gR (206 (276 (k+1) []).U 1e2 (k+1) F 51 [(58,7e8)] gR))->∀p∈ca,p))
  (hr:∀app,(app=0\/app=2\/app=3)->q=31e3->bM (5e2<=a)=false->16e4=34e2->48 (0e2::F)):48 (0e2::F):=by
 have v:c∈19::jS:=by clear hx C;rcases r with H|rfl<;>decide
 by_cases n:5e2<=a
 ·have hd:=eF n;show gd (hx xj) λo ca hm x=>?_;exact 242 v i hm (x λgR=>Oa (m_adu aw sh C.h3 1e2 (k+1) _ c q a t h F) (39 hd)) (al9 aw 1e6 _ c q a t r h F) (λmL=>39 hd)
 have hd:bM (5e2<=a)=false:=fY n;show aN (Xb (C.apx.tb2 h) j (by exact K.wl n)) λapp s m=>?_;rcases m with H|⟨app,H,m⟩
 ·show gd (hx xk) λo ca hm x=>?_;exact 242 v i hm (x λgR=>Oa (m_adn aw sh C.h3 1e2 (k+1) _ c q a t h F) (24 hd s)) (ama aw 1e6 _ c q a t r h F) (λmL=>24 hd s)
 have w:=six m;by_cases e:31e3=q
 ·exact hr app (anA u w e) e.bi hd s
 ·show gd (hx xm) λo ca hm x=>?_;exact 242 v i hm (x λgR=>Oa (m_adw aw sh C.h3 1e2 (k+1) _ c q a t app u h w e F) (130 hd s s)) (amb aw 1e6 _ c q a t app r u h w e F) (λmL=>130 hd s s)
def o4{p q r s:Prop}(e:p)(h2:q)(h3:r)(h:s):∀x∈ [p,q,r,s],x:=25 e h2 h3 h
def sim_ind{q t:K}{u v:V}(p:q=1\/q=2)(r:19e3)(c:128 u)(i:KV kv v)(C:18 [4e1,10e7,1e1])(o:7e4)(h0:14e1)(l:32e1):48 [u,v]:=by
 show ik c λa j=>?_;have n1:=C.apx.N9;have P:=C.apx.ns.2;have g:=C.apx.B.2;show Oc 2e6 (p.ak .a4 λh=> .aE 25e7) r j.1 (λf=>bC (λv=>[v]) (i.eR f)) C h0 (λz=>⟨_,_,m_inx aw sh 1e2 k (k+1) _ q t a v z,λh=>39 (h _)⟩) λapp n e hd s=>?_;have m:app=0\/app=2:=by
  rcases n with H|rfl|rfl
  ·exact 2e6
  ·exact 21e5
  ·rcases p with H|rfl<;>cases e
 clear p;subst e;have hm:=m_ink aw sh C.h3 1e2 k (k+1) (32 [4e1,49e5,1e1]) 31e3 t a app m v;rw[<-Xk]at hm;have x:=λmL:4e8=>(by
  have x:=WR aw 1e6 (1e7++[(131,.X [4e1,49e5,1e1])]) 17 a t app 2e6 r m v
  rw[<-Xl]at x
  exact x:_)
 have w:c8 (fR sh (fo b 31e3 v) [v]) (k+1) (ns++[(31e3,v)]):=C.apx.fo i.x;exact W7 C o aq (bu.fo b 31e3 v) w (λd=>rfl) hm (ac (Dn (NG aw sh C.h3 1e2 (k+1) _ 17 a t app r n [v]) (o4 hd s s s)) (o4 24e7 24e7 (363 b.no.U) (by exact I.nD 16777216))) x (λmL=>ac hd (o4 s s s (363 b.nl.U))) 13e8 (l (y9 sh) _ _ [] (Xj C.h3) ((bu.fo b 31e3 v).fR sh [v]) w d2)
def anB{t:K}{u v w:V}(n:19e3)(j:128 u)(q:KV .j4 v)(m:128 w)(C:18 [4e1,3e8,1e1])(g:7e4)(h0:14e1)(d:77 [.j4]):48 [u,v,w]:=by
 (show aN j λa p c=>?_;try clear j;subst p);have W:=C.apx.ns.2;have apq:=C.apx.B.2;show Oc 2e6 (79 H) n c.1 (λf=>by refine [73 _,73 _]=_;rw[q.eR f,m.eR f]) C h0 (λz=>⟨_,_,m_inx2 aw sh 1e2 k (k+1) _ 5 t a v w z,λh=>39 (h _)⟩) λapp l e hd s=>?_;have P:app=3:=by
  rcases l with H|rfl|rfl
  ·cases e
  ·cases e
  ·rfl
 subst P;have o:=q.Xq m;(show aN q λfb p apA=>?_;try clear q;subst p);(show aN m λfa p R=>?_;try clear m;subst p);have i:=NG aw sh C.h3 1e2 (k+1) [(164,7e9),(207,3e7),(43,.X [4e1,3e8,1e1]),(6,4e1)] 17 a t 3 n (79 H) [2 fb,13e3];rcases C.apx.apr with x|x
 ·have hm:=m_inf1 aw sh C.h3 1e2 k (k+1) (32 [4e1,3e8,1e1]) t a fa fb;have r:=λmL:4e8=>amd aw 1e6 (1e7++[(131,.X [4e1,3e8,1e1])]) a fa fb t n x;rw[Dm 1e2 x]at hm;exact Xp C 21e5 h0 (λS=>rfl) hm (39 (Dn i (o4 hd s s s))) r (λmL=>o4 hd s s s)
 ·have hm:=m_inf3 aw sh C.h3 1e2 k (k+1) (32 [4e1,3e8,1e1]) t a fa fb;have r:=λmL:4e8=>(by
   have r:=amc aw 1e6 (1e7++[(131,.X [4e1,3e8,1e1])]) a fa fb t n x
   rw[mb _ aq]at r
   exact r:_)
  rw[Dm 1e2 x,Xm 1e2 _ x]at hm;exact Xo H C g aq o hm (24 (Dn i (o4 hd s s s)) 24e7) r (λmL=>90 hd s (o4 s s (Xn _) 24e7)) d
universe e
section
variable{mL:I->aps}{sh:Sh}{b b0:MB}{k:I}{ns:D (K×V)}
def anC:xK sh (fo b f v) k1 s0=xK sh {aG b with no:=(1e2).no++[.X [0 f,6 [v]]]} k1 s0:=by cases sh<;>rfl
def anD{o2:4e8->2e1}{ca:6e1}{x:4e8->6e1}(a:KV .x v)(C:18 (8e3::r))(h0:14e1)
  (dj:303 (k+1) (8e3::r) au (8e3::r) o=ea (xK sh (fo b 1 v) (k+1) [v]) (32 (8e3::r)) ca) (ho:13e1)
  (l9:∀mL,289 1e6 (8e3::r) au (1e7++[(131,.X (8e3::r))]) (o2 mL)=202 (183 (fo b 1 v)) 4e2 [] (1e7++[(131,.X (8e3::r))]) (x mL)) (ma:∀mL,∀p∈x mL,p):32e0:=by
 have m:c8 (fR sh (fo b 1 v) [v]) (k+1) (ns++[(1,v)]):=C.apx.fo a;have j:c8 (fR (.b [] []) (fo b 1 v) [v]) (k+1) (ns++[(1,v)]):=C.apx.fo a;have hs:72 (fR sh (fo b 1 v) [v]):=(bu.fo b 1 v).fR sh [v];show gd (alr C.h3 (m.wf (hs.1▸C.hm)) dj ho C.at) λq aD n i=>?_;clear dj;have cR:∀mL,ku 51 mL->LC 14e0 k au (.Y (307 [28e7,5e7]) (85 (183 (fR sh (fo b 1 v) [v])) ((fR sh (fo b 1 v) [v]).aO.aj bB) []) 1e7):=λmL hL=>by
  have e:oh (183 (fo b 1 v)):=j.oj hL;have hd:=zc (b:=14e0) (b':=183 (fo b 1 v)) e C.apx.B.1 C.hr (oi b.aO) 22e4 22e4 22e4 (l9 mL) (ma mL);have u:=Db (b:=14e0) (b':=183 (fo b 1 v)) (w:= .X [28e7,5e7]) e C.apx.B.1 C.hr (oi b.aO) (en:= 0e6) (b7:=[]) 22e4 22e4 (adk aw 14e0 (183 (fo b 1 v)) 4e2 au r) (39 hd);clear C;cases sh<;>exact u
 show⟨_,.X [28e7,5e7],0e6,[],fR sh (fo b 1 v) [v],k+1,ns++[(1,v)],i,cR,.a4 ⟨H,62,q,_,[6e0],_,_,1,H,.aE ⟨H,20e1,aD,21e5,?_,H⟩⟩,m,?_⟩
 ·rcases n with⟨_,h⟩|⟨_,h⟩
  ·exact 25e7
  ·exact .aE h
 ·exact⟨hs.1.aV h0.1.bi,hs.2.1.aV h0.2.1.bi,hs.2.2.1.aV h0.2.2.1.bi,hs.2.2.2.aV h0.2.2.2.bi,λs=>rfl,λs=>rfl⟩
def anE(r:19e3)(q:128 u)(p:30e2)(C:18 [8e3,1e3,1e1])(h0:14e1):48 [u,v]:=by
 show ik q λa n=>?_;have n1:=C.apx.N9;have l:=C.apx.ns.2;have i:=C.apx.B.2;have j:=(118 C.hr);show Oc 21e5 2e6 r n.1 (λf=>bC (λv=>[v]) (p.eR f)) C h0 (λz=>⟨_,_,m_tlx aw sh 1e2 k (k+1) _ 1 t a v z,λh=>39 (h _)⟩) λapp w e hd s=>?_;have m:app=2:=by
  rcases w with H|rfl|rfl
  ·cases e
  ·rfl
  ·cases e
 subst m;have hm:=m_tlk aw sh C.h3 1e2 k (k+1) (32 [8e3,1e3,1e1]) t a v;rw[<-anC]at hm;have x:=λmL:4e8=>(by
  have x:=WR aw 1e6 (1e7++[(131,.X [8e3,1e3,1e1])]) 19 a t 2 21e5 r 21e5 v
  exact x:_)
 exact anD p.x C h0 hm (137 (Dn (NG aw sh C.h3 1e2 (k+1) _ 19 a t 2 r 15e6 [v]) (o4 hd s s s)) bN bN bN (o4 bN bN (363 b.no.U) bN)) x (λmL=>ac hd (o4 s s s (363 b.nl.U)))
universe e
def Do(r:V):Prop:=∃c aD,r=V.X (1e5::aD)/\c∈jS
def d4(bx:V)(ts s:D apv):Prop:=Do bx/\∀{mL:4e8} {sh:Sh} {b b0:MB} {k:I} {ns:33e1} {au:0e0},Cx mL sh b k ns bx->k+1<b.B.U->14e1->ef ts au->77 s->32e0
def qf(B:0e0)(ts:D apv):Prop:=∀{mL:4e8} {sh:Sh} {b b0:MB} {k:I} {ns:33e1} {au:0e0},20e7->ku 62 b.m->ku 51 mL->15e0->b.B.fi k=B->14e1->ef ts au->32e0
def mc(d5:0e0):Prop:=(∀r∈d5,Do r)/\∀B,B≠ []->qf B []->qf (d5++B) []
def Od{l B:0e0}{r:V}{k:I}(h:l.fi k=r::B):l[k]? =G r/\l.fi (k+1)=B/\(B≠ []->k+1<l.U)/\(B=[]->k+1=l.U):=by
 have h1:(l.fi k)[0]? =G r:=by rw[h];rfl
 rw[D.Wa]at h1;have h2:l.fi (k+1)=B:=by rw[<-D.ZH,h];rfl
 have h3:(l.fi k).U=B.U+1:=by rw[h];rfl
 rw[D.sg]at h3;have x:l.U=B.U+1+k:=(I.sub_eq_iff_eq_add (I.jz (I.lt_of_sub_ne_zero (h3▸I.Sg _)))).mp h3;show⟨h1,h2,λs=>?_,λs=>?_⟩
 ·rw[x,I.BQ k];exact I.aer (I.succ_lt_succ (I.pos_of_ne_zero λe=>s (D.J4.mp e))) k
 ·rw[x,s,I.BQ k];rfl
def fZ(s:c∈jS)(h:∀{mL:4e8} {sh:Sh} {b b0:MB} {k:I} {ns:33e1} {au:0e0},18 (1e5::r)->k+1<b.B.U->14e1->ef ts au->77 ts'->32e0):109 (1e5::r) ts ts':=⟨⟨c,r,H,s⟩,h⟩
def kZ{bx:V}{B:0e0}{ts s:D apv}(a:B≠ [])(hr:d4 bx ts s)(ih:qf B s):qf (bx::B) ts:=by
 intro mL sh b b0 k ns au apx hm hL h3 hd h0 x;(show lJ (Od hd) λe1 e2 e3 r=>?_;clear r);exact hr.2 ⟨apx,hm,hL,h3,e1⟩ (e3 a) h0 x λm b' lj b7 p hs e h=>ih e (hs.1▸hm) hL p (by rw[hs.2.1];exact e2) ⟨h0.1.aV hs.1.bi,h0.2.1.aV hs.2.1.bi,h0.2.2.1.aV hs.2.2.1.bi,h0.2.2.2.aV hs.2.2.2.bi⟩ h
def ef.aR(h:ef [] s):s=[]:=by cases s with
 |aR=>rfl
 |aQ a l=>exact h.ak
def ef.ej(h:ef [q] s):∃v,s=[v]/\KV q v:=by cases s with
 |aR=>exact h.ak
 |aQ a l=>(show oA h λh1 h2=>?_;try clear h);cases h2.aR;exact⟨a,H,h1⟩
def ef.j3(h:ef [q,r] s):∃v w,s=[v,w]/\KV q v/\KV r w:=by cases s with
 |aR=>exact h.ak
 |aQ a l=>(show oA h λh1 h2=>?_;try clear h);(show aN h2.ej λw e x=>?_;subst e);exact⟨a,w,H,h1,x⟩
def ef.kY(h:ef [q,r,p] s):∃v w x,s=[v,w,x]/\KV q v/\KV r w/\KV p x:=by cases s with
 |aR=>exact h.ak
 |aQ a l=>(show oA h λh1 h2=>?_;try clear h);(show gd h2.j3 λw x b e=>?_;subst b);exact⟨a,w,x,H,h1,e⟩
def KV.rxx(h:KV .rf v):KV .rx v:=by
 rcases h with H|⟨n,H,_⟩
 ·exact 2e6
 ·exact .aE ⟨n,H⟩
section
variable{ts:D apv}{n o:K}{q:apv}
def Dp(h:ts.U<=5):109 [5e8,0e3] ts (.cA::ts):=fZ aq λC s h0 e x=>amx C s e h x
def anF(e:0<=n/\n<256)(h:ts.U<=5):109 [5e8,0e3] ts (.s8::ts):=fZ aq λC s h0 a x=>amy e C s a h x
def q9(h:ts.U<=5):109 [21e4,0e3] ts (.j4::ts):=fZ aq λC s h0 e x=>amz C s e h x
def Xs(s:q= .rf\/q= .rx)(h:ts.U<=5):109 [0 208,0e3] ts (q::ts):=fZ aq λC e h0 a x=>amA s C e a h x
def anG(e:0<=n/\n<6)(h:ts.U<=5):109 [0 210,0e3] ts (.rf::ts):=fZ aq λC s h0 a x=>amC e C s a h x
def anH(h:ts.U<=5):109 [28e8,0e7] ts (.rx::ts):=fZ aq λC s h0 e x=>amD C s e h x
def anI(a:q= .rf\/q= .rx):109 [43e0] [q] [.x]:=fZ aq λC b h0 s x=>by
 (show aN s.ej λv e h=>?_;subst e);clear s;show amE (ts:=[]) ?_ C b d2 aq x;rcases a with H|rfl
 ·exact h.rxx
 ·exact h
def anJ:109 [16e3,0e7] [] [.x]:=fZ aq λC s h0 x h=>amF C s x aq h
def anK:159 [21e3,0e7] [.cA]:=fZ aq λC a h0 x s=>by(show aN x.ej λv h e=>?_;subst h);exact amI (ts:=[]) e C a d2 s
def anL:109 [16e3,1e3] [] [.x]:=fZ aq λC s h0 x h=>amG C s x aq h
def anM:159 [21e3,1e3] [.j4]:=fZ aq λC a h0 x s=>by(show aN x.ej λv h e=>?_;subst h);exact amJ (ts:=[]) e C a d2 s
def anN:109 [16e3,1e8] [] [.x]:=fZ aq λC s h0 x h=>amH C s x aq h
def anO:159 [21e3,1e8] [.rf]:=fZ aq λC a h0 x s=>by(show aN x.ej λv h e=>?_;subst h);exact amK (ts:=[]) e C a d2 s
def Xt(x:7e3):109 [38e1,1e1] [.cA] [22e3]:=fZ aq λC a h0 hs s=>by(show aN hs.ej λv h e=>?_;subst h);exact amP x e C a h0 s
def anP(e:7e3):159 [0 38,1e1] [22e3,.cA]:=fZ aq λC a h0 hs h=>by(show jB hs.j3 λv w b x s=>?_;subst b);exact amR e x s C a h0 h
def anQ(x:7e3):109 [48e8,1e1] [] [.x]:=fZ aq λC s h0 hs h=>by cases hs.aR;exact amS x C s h
def anR(e:7e3):109 [39e2,1e1] [.cA,22e3] [.x]:=fZ aq λC a h0 hs h=>by(show jB hs.j3 λv w b x s=>?_;subst b);exact amT e x s C a h
def anS(e:7e3):159 [33e6,1e1] [.cA,22e3,.cA]:=fZ aq λC b h0 hs h=>by(show k7 hs.kY λv w x p a s r=>?_;subst p);exact amU e a s r C b h0 h
def anT(x:16e0):159 [48e9,6e5] []:=fZ aq λC s h0 hs h=>by cases hs.aR;exact amV x C s h
def anU(x:16e0):159 [48e7,6e5] []:=fZ aq λC s h0 hs h=>by cases hs.aR;exact am9 x C s h
def anV(s:16e0):159 [8e6,6e5] [.cA,.cA,.cA]:=fZ aq λC b h0 hs e=>by(show k7 hs.kY λv w x p a h r=>?_;subst p);exact am8 s a h r C b h0 e
def anW(r:CP x app):159 [28e5,0 x,17e1] [.cA,.cA,.cA]:=fZ aq λC a h0 hs h=>by(show k7 hs.kY λv w x p e s b=>?_;subst p);exact amX r e s b C a h0 h
def row_tin(s:IN e t):159 [8e7,11e5,1e1] [.cA,.cA,.cA]:=fZ aq λC r h0 hs a=>by(show k7 hs.kY λv w x k b h p=>?_;subst k);exact amY s b h p C r h0 a
def row_msz:109 [0 63] [] [.x]:=fZ aq λC s h0 x h=>by cases x.aR;exact am4 C s h
def row_mgr:109 [17e2] [.cA] [.x]:=fZ aq λC a h0 x s=>by(show aN x.ej λv h e=>?_;subst h);exact am5 e C a s
def row_mcp:159 [20e8] [.cA,.cA,.cA]:=fZ aq λC b h0 e h=>by(show k7 e.kY λv w x p a s r=>?_;subst p);exact am6 a s r C b h0 h
def row_mfl:159 [16e1] [.s8,.cA,.cA]:=fZ aq λC b h0 e h=>by(show k7 e.kY λv w x p a s r=>?_;subst p);exact am7 a s r C b h0 h
def lI(b:f=1\/f=2\/f=3\/f=4):159 [4e0,0 f] [q]:=fZ aq λC a h0 x s=>by(show aN x.ej λv h e=>?_;subst h);exact ans b e C a s
def row_far:109 [4e0,3e8] [.j4,.cA] [.j4]:=fZ aq λC a h0 x h=>by(show jB x.j3 λv w b e s=>?_;subst b);exact any e s C a h0 h
def Dq{q t:K}(a:q=1\/q=2)(e:19e3):159 [4e1,10e7,1e1] [.cA,kv]:=fZ aq λC b h0 hs h=>by(show jB hs.j3 λv w r x s=>?_;subst r);exact sim_ind a e x s C b h0 h
def Dr(e:19e3):109 [4e1,3e8,1e1] [.cA,.j4,.cA] [.j4]:=fZ aq λC b h0 hs h=>by(show k7 hs.kY λv w x p a s r=>?_;subst p);exact anB e a s r C b h0 h
def LU_of:∀p∈A9,LU p.1 p.2:=by unfold LU;decide
def LS_of:∀p∈Ba,LS p.1 p.2.1 p.2.2:=by unfold LS;decide
def ld_or(h:c∈xP):(∃n,LU c n)\/∃n q,LS c n q:=by
 have z:=D.iw.mp (show xP.dM (λc=>A9.fP (λp=>275 p.1 c)||Ba.fP λp=>275 p.1 c)=true by decide) c h;rcases al.tR.mp z with z|z
 ·show aN (D.qa.mp z) λp s e=>?_;exact .a4 ⟨p.2,fq e▸LU_of p s⟩
 ·show aN (D.qa.mp z) λp s e=>?_;exact .aE ⟨p.2.1,p.2.2,fq e▸LS_of p s⟩
def row_ld(p:c∈xP)(r:0<=o):109 [1e5,0e7,12e6] [.cA] [.x]:=by
 rcases ld_or p with⟨n,h⟩|⟨n,q,h⟩
 ·exact fZ h.Y.2 (λC b h0 e s=>by(show aN e.ej λv x a=>?_;subst x);exact ano h r a C b h0 s)
 ·exact fZ h.Y.2.1 (λC b h0 e s=>by(show aN e.ej λv x a=>?_;subst x);exact anp h r a C b h0 s)
def Xu(h:ST c n)(k:0<=o)(p:∀v,KV kv v->∃x,v= 6e6/\0<=x):159 [1e5,0e7,12e6] [kv,.cA]:=fZ h.Y.2 (λC m h0 s a=>by
 (show jB s.j3 λv w u r e=>?_;subst u)
 clear s
 (show aN (p v r) λx b q=>?_;subst b)
 exact anr h k e q C m h0 a)
def row_st(a:c∈Kt)(s:0<=o):159 [1e5,0e7,12e6] [.cA,.cA]:=by
 have h:∃n,ST c n:=by
  exact mE (C:=λc=>∃n,ST c n) ⟨4,by unfold ST;decide⟩ (382 1 (382 2 mN)) c a
 show oE h λn h=>?_;exact Xu h s (by rintro v ⟨x,e,h0,_⟩;exact⟨x,e,h0⟩)
def row_st'(a:c∈Ku)(s:0<=o):159 [1e5,0e7,12e6] [.j4,.cA]:=by
 have h:∃n,ST c n:=by
  exact mE (C:=λc=>∃n,ST c n) ⟨8,by unfold ST;decide⟩ (382 1 (382 2 (382 4 mN))) c a
 show oE h λn h=>?_;exact Xu h s (by rintro v ⟨x,e,h0,_⟩;exact⟨x,e,h0⟩)
def anX:qf [.X [21e2]] []:=by
 intro mL sh b b0 k ns au apx hm hL h3 hd h0 h;(show lJ (Od hd) λe1 s x e4=>?_;clear s;clear x);cases h.aR;exact anz ⟨apx,hm,hL,h3,e1⟩ (e4 H) h0
def Xv{t:K}(a:19e3){B:0e0}:qf (.X [8e3,1e3,1e1]::B) [.cA,.cA]:=by
 intro mL sh b b0 k ns au apx hm hL h3 hd h0 hs;(show lJ (Od hd) λe1 x s e4=>?_;clear x;clear s);(show jB hs.j3 λv w s e h=>?_;subst s);clear hs;exact anE a e h ⟨apx,hm,hL,h3,e1⟩ h0
universe e
def Al(C:154 K):I->Prop
 |0=>kx
 |n+1=>Al C n/\C n
def Xw{C:154 K}:∀{n:I},Al C n->∀i:I,i<n->C i
 |0,_,i,h=>bL h (I.K9 _)
 |n+1,g,i,h=>(I.lt_succ_iff_lt_or_eq.mp h).ak (Xw g.1 i) λe=>e▸g.2
def wn(a:K)(n:I)(h:0<n):0<=a.ah n:=by rw[mb _ (by exact K.nU n)];exact K.ni _ (by exact K.natCast_ne_zero_iff_pos.bn h)
def Oe(a:K)(n:I)(h:0<n):a.ah n<n:=by rw[mb _ (by exact K.nU n)];exact K.og _ (by exact K.natCast_pos.bn h)
def Of(n:I){C:154 K}{k:K}(h0:0<=k)(s:k<n)(g:Al C n):C k:=by
 rw[<-K.um h0]at s⊢;exact Xw g _ (K.Lc.mp s)
def uA(a:K)(n:I)(h:0<n){C:154 K}(g:Al C n):C (a.ah n):=by
 exact Of n (wn a n h) (Oe a n h) g
def zk(a:K):21e1=0\/21e1=1:=uA (C:=λz=>z=0\/z=1) a 2 aq (107 d2 2e6 21e5)
def rc(a:K):8e2=0\/8e2=1\/8e2=2:=uA (C:=λz=>z=0\/z=1\/z=2) a 3 aq ⟨(107 d2 2e6 15e6),79 H⟩
def Xx(a:K):38e0=0\/38e0=1\/38e0=2\/38e0=3:=uA (C:=λz=>z=0\/z=1\/z=2\/z=3) a 4 aq (107 (107 d2 2e6 15e6) 36e8 (.aE (79 H)))
def Xy(a:K):31e8=0\/31e8=1\/31e8=2\/31e8=3\/31e8=4:=uA (C:=λz=>z=0\/z=1\/z=2\/z=3\/z=4) a 5 aq ⟨(107 (107 d2 2e6 15e6) 36e8 (.aE 36e8)),259 H⟩
def fm7(a:K):19e9=0\/19e9=1\/19e9=2\/19e9=3\/19e9=4\/19e9=5\/19e9=6:=uA (C:=λz=>z=0\/z=1\/z=2\/z=3\/z=4\/z=5\/z=6) a 7 aq (107 (107 ⟨(107 d2 2e6 15e6),36e8⟩ (.aE 36e8) 33e7) (.aE 33e7) (79 (259 H)))
def fm8(a:K):20e0=0\/20e0=1\/20e0=2\/20e0=3\/20e0=4\/20e0=5\/20e0=6\/20e0=7:=uA (C:=λz=>z=0\/z=1\/z=2\/z=3\/z=4\/z=5\/z=6\/z=7) a 8 aq ⟨(107 (107 ⟨(107 d2 2e6 15e6),36e8⟩ (.aE 36e8) 33e7) (.aE 33e7) (79 33e7)),.aE (79 (259 H))⟩
def anY(a:K):12e7=0\/12e7=1\/12e7=2\/12e7=3\/12e7=4\/12e7=5\/12e7=6\/12e7=7\/12e7=8\/12e7=9\/12e7=10\/12e7=11:=uA (C:=λz=>z=0\/z=1\/z=2\/z=3\/z=4\/z=5\/z=6\/z=7\/z=8\/z=9\/z=10\/z=11) a 12 aq (107 (107 (107 (107 ⟨(107 ⟨d2,2e6⟩ 15e6 36e8),.aE 36e8⟩ 33e7 (.aE 33e7)) (79 33e7) (.aE (259 (79 2e6)))) (259 33e7) (.aE (259 33e7))) (79 (259 33e7)) (.aE (79 (259 (259 H)))))
def Ds(e:kq as=kq y2)(h:cw aw d f as v):cw aw d f y2 v:=λO T=>uw (λs s s r=>v9 e.bi r) (h O T)
def anZ(e:dG v=dG v')(h:cw aw d f as v):cw aw d f as v':=λO T=>Wh (λs s s r=>o8 e r) (h O T)
def jh{ca:6e1}(dj:∀O T,153 aw n d f as O o= 93 v O ca)(h:13e1)(s:(lk ft f).ir=true)(e:dG v=dG v'):cw aw d f as v':=anZ e λO T=>iZ (dj O T) h (i0 s)
def Dt(T:0e1):Prop:=∀k v,19e1=2e4->∀g:I->I,g 0=0->cK g v=v
def iA(d f:I)(as:0e0):Prop:=∃d5,mc d5/\d5.U<=6/\(∀g,bQ g d5=d5)/\∀B ft T,(∀g,bQ g B=B)->Dt T->123 d (22 f as) [5e0] T (6 d5) [5e0] T
def an0{ca:6e1}(h:iC r= 93 v [o] ca):∃s,r= .aT (.v v) ⟨o::s,T,[]⟩ ca:=by
 cases r with
 |aT a F ob=>
  obtain⟨O,k,oc⟩:=F;(show hV (Eq.mp (R.aT.fv ..) h) λe u x=>?_;subst e;subst x);(show hV (Eq.mp (MS.mk.fv ..) u) λh1 b x=>?_;subst b;subst x);cases O with
  |aR=>cases h1
  |aQ p s=>
   rw[D.take_succ_cons,D.take_zero]at h1;cases h1;exact⟨s,H⟩
 |a8 i F ob=>cases h
 |no w=>cases h
def an1{B:0e0}{ft:al}{s:1e0}{T:0e1}(h:∀g,bQ g B=B)(x:Dt T):gb 1 (5e0::s) [5e0] T T (gn [0] (.az B ft::s:1e0).U):=
 gb.sF (fW:=[0]) (by
  refine [G (eJ 5e0)]=[G (eJ (f9 _ 5e0))]
  refine [G (eJ _)]=[G (eJ (.az (bQ _ _) _))];rw[h]) (by simp) (λk v e=>⟨v,e,by rw[x k v e _ H]⟩) H
def ji{o:0e0->al->2e1}{ca:0e0->al->6e1}(hd:mc zl)(k:zl.U<=6)(m:∀g,bQ g zl=zl)(a:∀g,bQ g d5=d5)
  (dj:∀B ft T,iC (apy aw n d (22 f as) ⟨[5e0],T,o B ft⟩)= 93 (.ad d5 t) [5e0] (ca B ft)) (ho:∀B ft,(∀g,bQ g B=B)->∀p∈ca B ft,p) (hk:(lk ft f).ir=true) (e:kq d5=kq zl):iA d f as:=by
 show⟨zl,hd,k,m,λB ft T x b=>?_⟩;show oE (an0 (dj B ft T)) λh hr=>?_;have S:=hU d n (22 f as) ⟨[5e0],T,o B ft⟩;rw[hr]at S;have S2:iK d (22 f as) ⟨[5e0],T,o B ft⟩ (.aT (.v (cK (gn [0] (.az B ft::h:1e0).U) (.ad d5 t))) ⟨5e0::h,T,[]⟩ (ca B ft)):=by
  rw[show cK _ (.ad d5 t)= .ad (bQ _ d5) t from H,a];exact S
 show Wh (v:= .ad d5 t) (λs s s r=>o8 ?_ r) (Wd S2 (ho B ft x) (an1 x b) (i0 hk));refine V.ad _ true= 6 _;rw[e]
def md(hd:mc d5)(e:d5.U<=6)(s:∀g,bQ g d5=d5)(h:cw aw d f as (6 d5)):iA d f as:=⟨d5,hd,e,s,λB ft T x x=>h _ T⟩
def kw(e:kq as=kq y2)(h:iA d f as):iA d f y2:=by
 (show sP h λd5 h1 h2 h3 x=>?_;try clear h);exact⟨d5,h1,h2,h3,λB ft T a b=>uw (λs s s r=>v9 e.bi r) (x B ft T a b)⟩
section
variable{r1 r2 r3 r4 r5:V}{a b c d:D apv}
def Xz(s:d4 r1 [] []):mc [r1]:=⟨λr h=>by rcases 52e6 with H;exact s.1,λB x h=>kZ x s h⟩
def sI(s:d4 r1 [] a)(h2:d4 r2 a []):mc [r1,r2]:=⟨237 s.1 h2.1 mN,λB x h=>252 s (kZ x h2 h)⟩
def ok(s:d4 r1 [] a)(h2:d4 r2 a b)(h3:d4 r3 b []):mc [r1,r2,r3]:=⟨mE s.1 (237 h2.1 h3.1 mN),λB x h=>252 s (252 h2 (kZ x h3 h))⟩
def sJ(s:d4 r1 [] a)(h2:d4 r2 a b)(h3:d4 r3 b c)(x:d4 r4 c []):mc [r1,r2,r3,r4]:=⟨237 s.1 h2.1 (237 h3.1 x.1 mN),λB e h=>252 s (252 h2 (252 h3 (kZ e x h)))⟩
def Du(s:d4 r1 [] a)(h2:d4 r2 a b)(h3:d4 r3 b c)(x:d4 r4 c d)(e:d4 r5 d []):mc [r1,r2,r3,r4,r5]:=⟨237 s.1 h2.1 (mE h3.1 (237 x.1 e.1 mN)),λB r h=>252 s (252 h2 (252 h3 (252 x (kZ r e h))))⟩
universe e
abbrev d7(n:K):V:= .X [5e8,0e3]
def jj:d4 (d7 n) [] [.cA]:=Dp aq
def ol:d4 (d7 n) [q] [.cA,q]:=Dp (ts:=[q]) (by refine 1<=5;decide)
def rd:d4 (d7 n) [q,r] [.cA,q,r]:=Dp (ts:=[q,r]) (by refine 2<=5;decide)
def zm(d:I)(a:K):∃n,cw aw (d+1) 1344 [0e2] 0e3:=by
 have h:20e0=0\/20e0=1\/20e0=2\/20e0=3\/20e0=4\/20e0=5\/20e0=6\/20e0=7:=fm8 _;have x:∃n u,dq [0e7,1e3,12e9,0 2147483647,0 (-2147483648),0 255,0 (-129),2 (a.ah 1000)] 20e0=G (.y n u):=by
  rcases h with s|s|s|s|s|s|s|s<;>rw[s]<;>exact⟨_,_,H⟩
 show qh x λn u x=>?_;exact⟨n,335 (adm aw d O T a n u) (130 H H x) cI⟩
def zn(d:I)(t b:K):∃(p n:K) (q:al),cw aw (d+1) 1351 [2 t,2 b] (6 [.X [0 p,.y n q]])/\∀ts:D apv,ts.U<=5->109 [0 p,.y n q] ts (22e3::ts):=by
 by_cases x:t=1
 ·subst x;by_cases s:b.ah 2=0
  ·exact⟨32,0,false,Ds (as:=[1e3,2 b]) cI (335 (adn aw d O T b) (24 H 54e2) cI),λts h=>anH h⟩
  ·exact⟨208,-17,true,Ds (as:=[1e3,2 b]) cI (335 (ado aw d O T b) (24 H (uB s)) cI),λts h=>Xs 21e5 h⟩
 ·have a:22e3= .rf:=d6 x;rw[a];have e:(t==1)=false:=uB x;by_cases s:b.ah 3=0
  ·exact⟨208,-16,true,335 (adp aw d O T t b) (130 e H 54e2) cI,λts h=>Xs 2e6 h⟩
  ·exact⟨210,(b.aL 3).ah 6,true,335 (adq aw d O T t b) (ac e (25 H (uB s) H H)) cI,λts h=>anG (by rw[mb _ aq];exact⟨K.ni _ aq,K.og _ aq⟩) h⟩
def Dv(d:I)(a m:K)(hm:m=6\/m=17\/m=18):∃x app z,cw aw (d+1) 1358 [0e2,0 m] (6 [d7 x,40e6,d7 z]):=by
 show⟨a.ah m,(a.aL m).ah m,(a.aL (m^2)).ah 8,Ds (as:=[0e2,2 m]) cI (335 (t_three aw d O T a m) ?_ cI)⟩;rcases hm with H|rfl|rfl<;>exact(ac H (ac H (ac H (ac H (ac H (ac H a5))))))
def XA(hd:d=0\/d=1)(a:K):iA 38 1363 [0 d,0e2]:=by
 have h:12e7=0\/12e7=1\/12e7=2\/12e7=3\/12e7=4\/12e7=5\/12e7=6\/12e7=7\/12e7=8\/12e7=9\/12e7=10\/12e7=11:=anY _;have x:∃c,c∈xP/\dq [0 40,0 41,0 44,0 45,0 46,0 47,0 48,0 49,0 50,0 51,0 52,0 53] 12e7=G 1e5:=by
  rcases h with s|s|s|s|s|s|s|s|s|s|s|s
  ·exact(131 40)
  ·exact(131 41)
  ·exact(131 44)
  ·exact(131 45)
  ·exact(131 46)
  ·exact(131 47)
  ·exact(131 48)
  ·exact(131 49)
  ·exact(131 50)
  ·exact(131 51)
  ·exact(131 52)
  ·exact(131 53)
 show aN x λc x s=>?_;have b:vu c=1\/vu c=2\/vu c=3\/vu c=4:=by unfold vu;split<;>(try split)<;>lia
 exact ji (ok jj (row_ld x (wn ((a.aL 12).aL 17) 3 aq)) (lI b)) 24e5 36e3 36e3 (λB ft T=>t_ol aw hd x T B ft a) (λB ft e=>(90 H s (25 H H H H))) av cI
def XB(hd:d=2\/d=3)(a:K):iA 38 1363 [0 d,0e2]:=by
 show oE (zm 36 ((12e1).aL 34)) λn b=>?_;have h3:(12e1).ah 3=0\/(12e1).ah 3=1\/(12e1).ah 3=2:=rc _;have hm:∃m u,dq [0e3,2 ((9223372036854775807:K)-12e1),2 ((-9223372036854775808:K)+12e1)] ((12e1).ah 3)=G (.y m u):=by
  rcases h3 with h3|h3|h3<;>rw[h3]<;>exact⟨_,_,H⟩
 show qh hm λm u hm=>?_;have h:19e9=0\/19e9=1\/19e9=2\/19e9=3\/19e9=4\/19e9=5\/19e9=6:=fm7 _;have x:(∃c,c∈Kt/\dq [0 54,0 55,0 58,0 59,0 60,0 61,0 62] 19e9=G 1e5)\/∃c,c∈Ku/\dq [0 54,0 55,0 58,0 59,0 60,0 61,0 62] 19e9=G 1e5:=by
  rcases h with s|s|s|s|s|s|s
  ·exact .a4 (131 54)
  ·exact .aE (131 55)
  ·exact .a4 (131 58)
  ·exact .a4 (131 59)
  ·exact .aE (131 60)
  ·exact .aE (131 61)
  ·exact .aE (131 62)
 rcases x with⟨c,x,s⟩|⟨c,x,s⟩
 ·exact ji (ok jj ol (row_st x (wn ((12e1).aL 17) 2 aq))) 24e5 36e3 36e3 (λB ft T=>t_os aw hd x T B ft a n) (λB ft e=>(70 H s H H b H H H a5)) av cI
 ·exact ji (ok jj (q9 (n:=m) (ts:=[.cA]) aq) (row_st' x (wn ((12e1).aL 17) 2 aq))) 24e5 36e3 36e3 (λB ft T=>t_ou aw hd x T B ft a n m u) (λB ft e=>(90 H s (70 H H b H hm H H H a5))) av cI
def an2(a:K):iA 38 1363 [10e8,0e2]:=192 [.X [0 63],.X [4e0,1e3]] (sI row_msz (187 1)) 22e4 (t_o4 aw 36 O T a) a5
def an3(a:K):iA 38 1363 [3e8,0e2]:=by
 have h:38e0=0\/38e0=1\/38e0=2\/38e0=3:=Xx _;have x:∃n u,dq [0e7,1e3,1e8,12e9] 38e0=G (.y n u):=by
  rcases h with s|s|s|s<;>rw[s]<;>exact⟨_,_,H⟩
 show qh x λn u x=>?_;exact 192 [d7 n,.X [17e2],.X [4e0,1e3]] (ok jj row_mgr (187 1)) 36e3 (t_o5 aw 36 O T a n u) (24 H x)
def an4(a:K):iA 38 1363 [0 6,0e2]:=192 [d7 (a.ah 18),d7 (((a.aL 18).ah 700)-100),d7 ((a.aL 12600).ah 7),.X [16e1]] (sJ jj ol (anF (ts:=[.cA,.cA]) (by rw[mb _ aq];lia) aq) row_mfl) 22e4 (t_o6 aw 36 O T a) (ac H (25 H H H H))
def an5(a:K):iA 38 1363 [16e9,0e2]:=by
 show np (Dv 36 a 18 (79 H)) λx app z h=>?_;exact 192 [d7 x,40e6,d7 z,.X [20e8]] (sJ jj ol rd row_mcp) 22e4 (t_o7 aw 36 O T a (d7 x) 40e6 (d7 z)) (24 h aq)
def an6(a:K):iA 38 1363 [0 8,0e2]:=by
 show np (Dv 36 (a.aL 2) 17 15e6) λx app z h=>?_;have hr:21e1=0\/21e1=1:=zk _;have s:ic 21e1:=hr;exact 192 [d7 x,40e6,d7 z,.X [8e6,0 21e1]] (sJ jj ol rd (anV s)) 36e3 (t_o8 aw 36 O T a (d7 x) 40e6 (d7 z)) (25 H h H aq)
def an7(a:K):iA 38 1363 [0 9,0e2]:=by
 have hr:21e1=0\/21e1=1:=zk _;have s:ic 21e1:=hr;exact 192 [.X [48e7,0 21e1]] (Xz (anU s)) 52e2 (t_o9 aw 36 O T a) (39 H)
def an8(a:K):iA 38 1370 [0 12,0e2]:=by
 have hr:8e2=0\/8e2=1\/8e2=2:=rc _;have s:ee 8e2:=hr;by_cases h1:8e2=1
 ·exact 192 [d7 ((16e2).ah 8),.X [38e1,49e4],.X [4e0,10e8]] (ok jj (Xt s) (187 4)) 52e2 (t_e12_0 aw 36 O T a) (25 H H H (by rw[h1];rfl))
 ·exact 192 [d7 ((16e2).ah 8),.X [38e1,49e4],.X [4e0,3e4]] (ok jj (Xt s) (187 3)) 52e2 (t_e12_1 aw 36 O T a) (25 H H H (uB h1))
def an9(a:K):iA 38 1370 [0 13,0e2]:=by
 show oo (zn 36 8e2 (25e9 8)) λp n q h x=>?_;have hr:8e2=0\/8e2=1\/8e2=2:=rc _;have s:ee 8e2:=hr;exact 192 [d7 ((16e2).ah 8),.X [0 p,.y n q],.X [0 38,49e4]] (ok jj (x [.cA] aq) (anP s)) 36e3 (t_e13 aw 36 O T a (.X [0 p,.y n q])) (ac H (90 H H (25 H h aq aq)))
def aoa(a:K):iA 38 1370 [0 14,0e2]:=by
 have hr:8e2=0\/8e2=1\/8e2=2:=rc _;have s:ee 8e2:=hr;exact 192 [.X [48e8,49e4],.X [4e0,1e3]] (sI (anQ s) (187 1)) 52e2 (t_e14 aw 36 O T a) (24 H H)
def aob(a:K):iA 38 1370 [0 15,0e2]:=by
 show oo (zn 36 8e2 16e2) λp n q x b=>?_;have s:(25e9 18).ah 5=0\/(25e9 18).ah 5=1\/(25e9 18).ah 5=2\/(25e9 18).ah 5=3\/(25e9 18).ah 5=4:=Xy _;have h:∃m u,dq [0e7,1e3,1e8,3e4,12e9] ((25e9 18).ah 5)=G (.y m u):=by
  rcases s with s|s|s|s|s<;>rw[s]<;>exact⟨_,_,H⟩
 show qh h λm u h=>?_;have hr:8e2=0\/8e2=1\/8e2=2:=rc _;have e:ee 8e2:=hr;exact 192 [.X [0 p,.y n q],d7 m,.X [39e2,49e4],.X [4e0,1e3]] (sJ (b [] aq) ol (anR e) (187 1)) 45e1 (t_e15 aw 36 O T a m u (.X [0 p,.y n q])) (ac H (90 H x (25 H H h aq)))
def aoc(a:K):iA 38 1370 [4e0,0e2]:=by
 show oo (zn 36 8e2 (25e9 6)) λp n q h x=>?_;have hr:8e2=0\/8e2=1\/8e2=2:=rc _;have s:ee 8e2:=hr;exact 192 [d7 ((16e2).ah 6),.X [0 p,.y n q],d7 ((25e9 108).ah 5),.X [33e6,49e4]] (sJ jj (x [.cA] aq) rd (anS s)) 36e3 (t_e16 aw 36 O T a (.X [0 p,.y n q])) (ac H (70 H H H h aq H H aq a5))
def aod(a:K):iA 38 1370 [4e1,0e2]:=by
 show np (Dv 36 (a.aL 5) 6 2e6) λx app z h=>?_;have hr:31e8=0\/31e8=1\/31e8=2\/31e8=3\/31e8=4:=Xy _;have e:∃i j,CP i j/\dq [.X [0e7,1e8],.X [1e8,0e7],.X [0e7,0e7],.X [1e3,1e3],.X [1e8,1e8]] 31e8=G (.X [6e5,0 j]):=by
  rcases hr with s|s|s|s|s
  ·exact(381 0 2)
  ·exact(381 2 0)
  ·exact(381 0 0)
  ·exact(381 1 1)
  ·exact(381 2 2)
 show gd e λi j b e=>?_;exact 192 [d7 x,40e6,d7 z,.X [28e5,6e5,0 j]] (sJ jj ol rd (anW b)) 45e1 (t_e17 aw 36 O T a i j (d7 x) 40e6 (d7 z)) (ac H (90 H H (25 e H h aq)))
def aoe(a:K):iA 38 1370 [0 18,0e2]:=by
 show np (Dv 36 16e2 6 2e6) λx app z h=>?_;have hr:8e2=0\/8e2=1\/8e2=2:=rc _;have e:∃i j,IN i j/\dq [.X [0e7,0e7],.X [0e7,1e8],.X [1e3,1e3]] 8e2=G (.X [6e5,0 j]):=by
  rcases hr with s|s|s
  ·exact(414 0 0)
  ·exact(414 0 2)
  ·exact(414 1 1)
 show gd e λi j b e=>?_;exact 192 [d7 x,40e6,d7 z,.X [8e7,6e5,0 j]] (sJ jj ol rd (row_tin b)) 45e1 (t_e18 aw 36 O T a i j (d7 x) 40e6 (d7 z)) (ac H (25 H e h aq))
def aof(a:K):iA 38 1370 [8e3,0e2]:=by
 have hr:21e1=0\/21e1=1:=zk _;have s:ic 21e1:=hr;exact 192 [.X [48e9,0 21e1]] (Xz (anT s)) 52e2 (t_e19 aw 36 O T a) (130 H H H)
def XC:Dt [(p,.y a t),(q,.y b u),(r,.y c w)]:=λk v h g s=>by
 have hm:=iX h;clear h;simp only[D.eS,kF.mk.fv,D.mq,mr]at hm;rcases hm with⟨_,H⟩|⟨_,H⟩|⟨_,H⟩<;>rfl
def aog(h:0<=k/\k<10):iA 38 1363 [2 k,0e2]:=Of 10 (C:=λk=>iA 38 1363 [2 k,0e2]) h.1 h.2 (107 (107 (107 ⟨(107 ⟨d2,164 [0e7,0e2] (XA 2e6 a)⟩ (164 [1e3,0e2] (XA 21e5 a)) (164 [1e8,0e2] (XB 2e6 a))),164 [3e4,0e2] (XB 21e5 a)⟩ (164 [10e8,0e2] (an2 a)) (164 [3e8,0e2] (an3 a))) (164 [0 6,0e2] (an4 a)) (164 [16e9,0e2] (an5 a))) (164 [0 8,0e2] (an6 a)) (164 [0 9,0e2] (an7 a)))
def aoh(h:12<=k/\k<20):iA 38 1370 [2 k,0e2]:=Of 20 (C:=λk=>12<=k->iA 38 1370 [2 k,0e2]) (K.dV aq h.1) h.2 (416 ⟨(416 ⟨(416 ⟨⟨⟨⟨⟨⟨⟨⟨⟨⟨⟨⟨d2,λh=>bL h aq⟩,λh=>bL h aq⟩,λh=>bL h aq⟩,λh=>bL h aq⟩,λh=>bL h aq⟩,λh=>bL h aq⟩,λh=>bL h aq⟩,λh=>bL h aq⟩,λh=>bL h aq⟩,λh=>bL h aq⟩,λh=>bL h aq⟩,λh=>bL h aq⟩ [0 12,0e2] (an8 a) (164 [0 13,0e2] (an9 a))),λs=>164 [0 14,0e2] (aoa a)⟩ [0 15,0e2] (aob a) (164 [4e0,0e2] (aoc a))),λs=>164 [4e1,0e2] (aod a)⟩ [0 18,0e2] (aoe a) (164 [8e3,0e2] (aof a))) h.1
def aoi(x:K):iA 39 1377 [6e6]:=by
 have z:0<=7e6/\7e6<24:=⟨wn x 24 aq,Oe x 24 aq⟩;by_cases h1:7e6<10
 ·show sP (aog (k:=7e6) (a:=30e6) ⟨z.1,h1⟩) λd5 d1 d i j=>?_;exact ji d1 d i i (λB ft T=>t_do aw T B ft x d5) (λB ft e=>(25 H H (eF h1) (j B ft _ e XC))) av H
 have g1:=fY h1;by_cases h2:7e6=10
 ·have hr:19e0 3=0\/19e0 3=1\/19e0 3=2:=rc _;rcases hr with h|h|h
  ·exact 172 (372 [16e3,0e7] [4e0,1e3] anJ (187 1)) (Kv aw T B ft x) (90 H H (25 g1 (by rw[h2];rfl) H H)) 47e5
  ·exact 172 (372 [16e3,1e3] [4e0,1e8] anL (187 2)) (Kv aw T B ft x) (90 H H (25 g1 (by rw[h2];rfl) H H)) 47e5
  ·exact 172 (372 [16e3,1e8] [4e0,3e4] anN (187 3)) (Kv aw T B ft x) (90 H H (25 g1 (by rw[h2];rfl) H H)) 47e5
 have g2:=uB h2;by_cases h3:7e6=11
 ·have hr:19e0 3=0\/19e0 3=1\/19e0 3=2:=rc _;rcases hr with h|h|h
  ·show oE (zm 37 (11e4 3)) λn b=>?_;exact 172 (372 [5e8,0e3] [21e3,0e7] (Dp aq) anK) (QQ aw T B ft x n 0e6) (70 H H g1 g2 (by rw[h3];rfl) H 33e2 H (137 H b H aq a5)) 47e5
  ·show oE (zm 37 (11e4 3)) λn b=>?_;exact 172 (372 [21e4,0e3] [21e3,1e3] (q9 aq) anM) (QQ aw T B ft x n 0e6) (137 H H g1 g2 (70 (by rw[h3];rfl) H 33e2 H H b H aq a5)) 47e5
  ·show oo (zn 37 0 (11e4 3)) λp n q l c=>?_;exact 172 (372 [0 p,.y n q] [21e3,1e8] (c [] aq) anO) (t_d11_0 aw T B ft x 0 (.X [0 p,.y n q])) (ac H (90 H g1 (70 g2 (by rw[h3];rfl) H 33e2 H (Ds (as:=[12e8,329 3]) cI l) H aq a5))) 47e5
 have g3:=uB h3;by_cases o:7e6<20
 ·show sP (aoh (k:=7e6) (a:=30e6) ⟨bN,o⟩) λd5 d1 d i j=>?_;exact ji d1 d i i (λB ft T=>t_de aw T B ft x d5) (λB ft e=>(ac H (90 H g1 (25 g2 g3 (eF o) (j B ft _ e XC))))) av H
 have r:=fY o;by_cases t:7e6=20
 ·show oo (zn 37 (19e0 2) (11e4 2)) λp n q l c=>?_;have g:=amL (19e0 2);exact 172 (ok (r1:= .X [0 p,.y n q]) (r2:= .X [43e0]) (r3:= .X [4e0,1e3]) (c [] aq) (anI g) (187 1)) (t_d20 aw T B ft x (.X [0 p,.y n q])) (ac H (90 H g1 (70 g2 g3 r (by rw[t];rfl) H H l aq a5))) cI
 have v:=uB t;show oE (zm 37 30e6) λn b=>?_;show oE (zm 37 (11e4 8)) λm hm=>?_;by_cases app:7e6=23
 ·exact 172 (sJ (r1:=d7 n) (r2:= .X [21e4,2 m]) (r3:= .X [4e0,3e8]) (r4:= .X [4e0,1e8]) jj (q9 (ts:=[.cA]) aq) row_far (187 2)) (t_d23 aw T B ft x n m) (137 H H g1 g2 (70 g3 r v b H hm (by rw[app];rfl) aq a5)) cI
 have u:=uB app;have hr:19e0 4=0\/19e0 4=1\/19e0 4=2\/19e0 4=3:=Xx _;have P:(11e4 4).ah 2=0\/(11e4 4).ah 2=1:=zk _;rcases P with w|w
 ·rcases hr with h|h|h|h
  ·exact 172 (400 (d7 n) (.X [21e4,2 m]) (d7 ((11e4 8).ah 8)) (.X [4e1,3e8,0e7]) (.X [4e0,1e8]) jj (q9 (ts:=[.cA]) aq) rd (187 2)) (Be aw T B ft x n m 0) (137 H H g1 g2 (70 g3 r v b H hm u H (70 33e2 H H H H 41e6 aq aq a5))) cI
  ·exact 172 (400 (d7 n) (.X [21e4,2 m]) (d7 ((11e4 8).ah 8)) (.X [4e1,3e8,0e7]) (.X [4e0,1e8]) jj (q9 (ts:=[.cA]) aq) rd (187 2)) (Be aw T B ft x n m 0) (70 H H g1 g2 g3 r v b (70 H hm u H 33e2 H H H (137 H 41e6 aq aq a5))) cI
  ·exact 172 (ok (r1:=d7 n) (r2:=d7 ((11e4 8).ah 8)) (r3:= .X [4e1,1e3,0e7]) jj ol 53e5) (QR aw T B ft x n m 0) (70 H H g1 g2 g3 r v b (137 H hm u H (70 33e2 H H H H 41e6 aq aq a5))) cI
  ·exact 172 (ok (r1:= .X [21e4,2 m]) (r2:=d7 ((11e4 8).ah 8)) (r3:= .X [4e1,1e8,0e7]) (q9 aq) ol 53e5) (QS aw T B ft x n m 0) (70 H H g1 g2 g3 r v b (70 H hm u H 33e2 H H H (137 H 41e6 aq aq a5))) cI
 ·rcases hr with h|h|h|h
  ·exact 172 (400 (d7 n) (.X [21e4,2 m]) (d7 ((11e4 8).ah 8)) (.X [4e1,3e8,1e8]) (.X [4e0,1e8]) jj (q9 (ts:=[.cA]) aq) rd (187 2)) (Be aw T B ft x n m 2) (90 H H (70 g1 g2 g3 r v b H hm (70 u H 33e2 H H H H 41e6 (90 aq aq a5)))) cI
  ·exact 172 (400 (d7 n) (.X [21e4,2 m]) (d7 ((11e4 8).ah 8)) (.X [4e1,3e8,1e8]) (.X [4e0,1e8]) jj (q9 (ts:=[.cA]) aq) rd (187 2)) (Be aw T B ft x n m 2) (137 H H g1 g2 (70 g3 r v b H hm u H (70 33e2 H H H H 41e6 aq aq a5))) cI
  ·exact 172 (ok (r1:=d7 n) (r2:=d7 ((11e4 8).ah 8)) (r3:= .X [4e1,1e3,1e8]) jj ol 53e5) (QR aw T B ft x n m 2) (70 H H g1 g2 g3 r v b (70 H hm u H 33e2 H H H (137 H 41e6 aq aq a5))) cI
  ·exact 172 (ok (r1:= .X [21e4,2 m]) (r2:=d7 ((11e4 8).ah 8)) (r3:= .X [4e1,1e8,1e8]) (q9 aq) ol 53e5) (QS aw T B ft x n m 2) (137 H H g1 g2 (70 g3 r v b H hm u H (70 33e2 H H H H 41e6 aq aq a5))) cI
def zo:15e5:=match Qh.cX with
 | [_,.mw _ _ b,_,_]=>b
 |_=>[]
def Dw:Tk->al:=λtk=>match tk with
 | .gk _ _ _ _=>true
 |_=>false
abbrev uC(S:0e0):0e1:=[(93,4e5),(38,.Z 0)]
def aoj(P:PP)(S B s:0e0)(ft:al)(i:K):116 P 60 39 (.ss zo) [5e0] [(93,4e5),(38,.Z 0),(54,14e8)] [262 1377 (6 s) [5e0]]= 20 24e4 [37 (B++s)] [(93,4e5),(38,.Z 0),(54,14e8)] [] [9 i 100000007=true,P 39 (22 1377 [2 (i.ah 100000007)]) [5e0] [(93,4e5),(38,.Z 0),(54,14e8)] (36 (6 s) [5e0] [(93,4e5),(38,.Z 0),(54,14e8)]),(B++s).U<=16777216]:=by cases ft<;>kernel_rfl
def aok(P:PP)(T:0e1)(S B:0e0)(ft:al):153 P 60 40 1384 [4e5] [] [298 Dw (52 [5e0] l),1e9]= 140 (B++[.X [21e2]]) [5e0] [(46e5).U<=16777216,P 39 (.gk (.n 54) (357 46e5) 0 zo) [2e0] [(93,4e5),(38,.Z 0)] (52 [5e0] [(93,4e5),(38,.Z 0)]),bM ((6:K)<(S.U:K))=false,(B++[V.X [21e2]]).U<=16777216]:=by cases ft<;>kernel_rfl
def aol(P:PP)(T:0e1)(S B:0e0)(x t:K):153 P 60 40 1384 [4e5] [] [298 Dw (52 [37 B] l),6e7,.v 6e6,.v 6e6,.v 6e6,.v 1e1]= 140 ((B++[.X [5e8,50e2],.X [5e8,38 45e6 7],.X [8e3,1e3,1e1]])++[.X [21e2]]) [37 (B++[.X [5e8,50e2],.X [5e8,38 45e6 7],.X [8e3,1e3,1e1]])] [(46e5).U<=16777216,P 39 (.gk (.n 54) (357 46e5) 0 zo) [2e0] [(93,4e5),(38,.Z 0)] (52 [37 B] [(93,4e5),(38,.Z 0)]),bM ((6:K)<(S.U:K))=true,(dq S 6)=G 6e6,9 x 100=true,(dq S 6)=G 6e6,15 x 100=true,9 45e6 7=true,(dq S 6)=G 6e6,15 x 700=true,9 (x.aL 700) 2=true,(dq [0e7,1e8] ((x.aL 700).ah 2))=G 1e1,((B++[V.X [5e8,50e2],.X [5e8,38 45e6 7],.X [8e3,1e3,1e1]])).U<=16777216,(((B++[V.X [5e8,50e2],.X [5e8,38 45e6 7],.X [8e3,1e3,1e1]])++[V.X [21e2]])).U<=16777216]:=av
def uD(r:V):Prop:=∃c aD,r=V.X (1e5::aD)/\c∈11::19::jS
def Do.b{r:V}(h:Do r):uD r:=by
 (show gd h λc aD e s=>?_;try clear h);exact⟨c,aD,e,54 (54 s)⟩
def mc.aR:mc []:=⟨λs h=>(nomatch h),λB s h=>h⟩
def mc.lX{a b:0e0}(x:mc a)(p:mc b):mc (a++b):=⟨λr h=>(301 h) (x.1 r) (p.1 r),λB s h=>by
 rw[D.eP]
 exact x.2 (b++B) (λe=>s (D.append_eq_nil_iff.mp e).2) (p.2 B s h)⟩
def wo{f:I->I}{a b:0e0}:bQ f (a++b)=bQ f a++bQ f b:=by rw[lH,lH,lH,D.sB]
def aom{S:0e0}{i:K}(s:∀g,bQ g S=S):Dt (uC S++[(54,14e8)]):=λk v h g g0=>by
 have hm:=iX h;clear h;simp only[uC,D.NM,D.uS,D.eS,kF.mk.fv,D.mq,mr]at hm;rcases hm with⟨_,H⟩|⟨_,H⟩|⟨_,H⟩
 ·exact bC (V.ad · _) (s _)
 ·exact bC V.Z g0
 ·rfl
def XD{apt:0e0}{k:I}{o:9e5}(h:apt[k]? =o):∀F,It.at F (357 apt) k=0e4:=λF=>by
 refine G apt[k]? =_;rw[h]
def aon{apt S:0e0}(hL:∀v∈apt,∃i,v=37e7)(t:∀g,bQ g S=S)(n:I):∀(k:I) (B:0e0) (ft:al),n+k=apt.U->(∀g,bQ g B=B)->B.U+6*n<=10000->∃d5 r,(ft=true\/0<n->r=true)/\mc d5/\d5.U<=6*n/\(∀g,bQ g d5=d5)/\aw 39 (.gk (.n 54) (357 apt) k zo) [5e0] (uC S) (52 [.az (B++d5) r] (uC S)):=by
 induction n with
 |i5=>
  intro k B ft w x d;show⟨[],ft,λh=>?_,.aR,31e7,λg=>rfl,?_⟩
  ·rcases h with h|h
   ·exact h
   ·lia
  ·rw[D.dZ];exact Ny (XD (D.q4 bN))
 |hI n c=>
  intro k B ft w x d;have b:k<apt.U:=bN;show oE (hL apt[k] (D.NV b)) λi q=>?_;show sP (aoi (i.ah 100000007)) λr1 d1 P a p=>?_;have app:∀g,bQ g (B++r1)=B++r1:=λg=>by rw[wo,x,a]
  have e:(B++r1).U+6*n<=10000:=by rw[D.hP];lia
  show uF (c (k+1) (B++r1) true bN app e) λr2 bO e1 e2 e3 e4 e5=>?_;have u:=e1 2e6;subst u;show⟨r1++r2,true,λs=>rfl,d1.lX e2,by rw[D.hP];lia,λg=>by rw[wo,a,e4],?_⟩;have dj:=aoj aw S B r1 ft i;have ss:aw 39 (.ss zo) [5e0] (uC S++[(54,14e8)]) (52 [37 (B++r1)] (uC S)):=by
   show wb (a3:= 24e4) (f:=λi=>i) dj (130 H (p B ft _ x (aom t)) (by rw[D.hP];rw[D.hP]at e;lia)) ?_;exact⟨⟨λj o h=>⟨o,h,by rw[uv]⟩,λj h=>h,λj z s s h=>h,λk v h=>⟨v,wd (l:=uC S) (m:=[(54,37e7)]) h,by rw[n8]⟩⟩,λs s=>rfl,11e7⟩
  rw[<-D.eP];exact y1 (XD (by rw[D.ie b,q])) (λo=>rfl) ss e5
def aoo{α:Type}{l:8e4}{a b:8e5}{v:α}(h:v∈bE l a b):v∈l:=D.U7 (D.U8 h)
def XE{α:Type}{l:8e4}{a b:8e5}:(bE l a b).U<=l.U:=by
 unfold bE;rw[D.qQ,D.sg];exact I.dV (I.Sc ..) (I.Sd ..)
def aop{S:0e0}{v:V}{n:I}(h:S[n]? =2e4):dq S (n:K)=2e4:=h
def aoq{α:Type}{S:8e4}(h:6<S.U):(46e5).U=6:=by
 unfold bE;have e:xt (G 6) S.U=6:=by refine xr 6 S.U=6;rw[NN (394 6) bN];rfl
 rw[e,D.qQ,D.sg];refine min (6-0) (S.U-0)=6;lia
def aor{S:0e0}(m:∀v∈S,∃i,v=37e7)(d:S.U<=63)(u:∀g,bQ g S=S):∃B B2 bO,qf B []/\(∀r∈B,uD r)/\B.U<=1000/\(∀g,bQ g B=B)/\(∀g,bQ g B2=B2)/\∀T,123 40 (22 1384 [4e5]) [] T 9e0 [28e0] T:=by
 show uF (aon (apt:=46e5) (λv h=>m v (aoo h)) u (46e5).U 0 [] false H 45e3 (by have:=XE (l:=S) (a:=L) (b:=G 6);simp only[D.sn];lia)) λd5 ft e1 e2 e3 e4 e5=>?_;have app:=XE (l:=S) (a:=L) (b:=G 6);by_cases k:6<S.U
 ·have c:=aoq k;have q:=e1 (.aE bN);clear e1;subst q;show oE (m S[6] (D.NV k)) λx j=>?_;have p:dq S 6=G 6e6:=aop (n:=6) (by rw[D.ie k,j]);have s:((x.aL 700).ah 2=0\/(x.aL 700).ah 2=1):=zk _;have eg:∀t:K,(dq [0e7,1e8] ((x.aL 700).ah 2))=G 1e1->qf [.X [8e3,1e3,1e1],.X [21e2]] [.cA,.cA]->∃B B2 bO,qf B []/\(∀r∈B,uD r)/\B.U<=1000/\(∀g,bQ g B=B)/\(∀g,bQ g B2=B2)/\∀T,123 40 (22 1384 [4e5]) [] T 9e0 [28e0] T:=by
   intro t w o;have e:∀g,bQ g ((d5++[V.X [5e8,50e2],.X [5e8,38 45e6 7],.X [8e3,1e3,1e1]])++[.X [21e2]])=(d5++[V.X [5e8,50e2],.X [5e8,38 45e6 7],.X [8e3,1e3,1e1]])++[.X [21e2]]:=λg=>by rw[wo,wo,e4];rfl
   show⟨_,_,_,?_,?_,?_,e,?_,λT=>iZ (aol aw T S d5 x t) (90 bN e5 (70 (eF bN) p H p H H p H (137 H w ?_ ?_ a5))) 17e5⟩
   ·rw[D.eP];exact e2.2 _ (D.mM _ _) (252 jj (252 ol o))
   ·exact λr h=>(301 h) (λh=>(301 h) (λh=>(e2.1 r h).b) (λh=>by simp only[D.eS,D.mq,mr]at h;rcases h with H|rfl|rfl<;>exact⟨_,_,H,aq⟩)) (λh=>by rcases 52e6 with H;exact⟨_,_,H,aq⟩)
   ·simp only[D.hP,D.m7,D.sn];lia
   ·exact λg=>by rw[wo,e4];rfl
   ·simp only[D.hP,D.m7,D.sn];lia
   ·simp only[D.hP,D.m7,D.sn];lia
  rcases s with s|s
  ·exact eg 0 54e2 (Xv 2e6)
  ·exact eg 2 54e2 (Xv 21e5)
 ·have e:∀g,bQ g (d5++[V.X [21e2]])=d5++[V.X [21e2]]:=λg=>by rw[wo,e4];rfl
  show⟨_,_,_,?_,?_,?_,e,e4,λT=>iZ (aok aw T S d5 ft) (25 bN e5 (fY bN) ?_) 17e5⟩
  ·exact e2.2 _ (D.mM _ _) anX
  ·exact λr h=>(301 h) (λh=>(e2.1 r h).b) (λh=>by rcases 52e6 with H;exact⟨_,_,H,aq⟩)
  ·simp only[D.hP,D.m7,D.sn];lia
  ·simp only[D.hP,D.m7,D.sn];lia
def aK.Og{O om:1e0}{T mJ:0e1}{bG t:2e1}(R:161 (62 bG))(n:O.aj eJ=om.aj eJ)(w:∀k j,19 mJ=G j->∃v,19e1=2e4/\dG v=dG j):161 ⟨om,mJ,t⟩:=by
 have d:O.U=om.U:=by have:=bC D.U n;simpa using bb
 show⟨R.d8,R.cU.aV d,λi o p e1 e2=>?_,R.nd,R.gz,R.up,⟨?_,λk v a b=>?_⟩,R.bI,R.hM,R.b3,R.hw,R.gD,R.fy,R.dD,R.os,R.cW⟩
 ·have e:=bC (·[i]?) n;have e1:om[i]? =0e4:=e1;simp only[D.n4,e1,ar.td]at e;show aN 30e9 λo2 g1 g2=>?_;exact V7 g2 (R.O i o2 p g1 e2)
 ·obtain⟨m,l,f⟩:=R.bq.iP;exact⟨m,l,λk v a b=>(by show aN (w k v b) λv2 h r=>?_;exact(by show aN (f k _ a h) λu e q=>?_;exact⟨u,e,o8 r q⟩))⟩
 ·show aN (w k v b) λv2 h r=>?_;obtain(⟨c,u,e1,e2,e3,e4⟩):=201 k _ h;exact⟨c,u,e1,e2,o8 r e3,e4⟩
def aos(m:O.aj eJ=om.aj eJ)(n:∀k w,19 mJ=G w->∃v,19e1=2e4/\dG v=dG w)(h:aw d (.s sm) om mJ bI):aw d (.s sm) O T bI:=by
 intro o1 o2;show oA (h o1 o2) λh1 h2=>?_;exact⟨λk sc S q x J s Q EE Y r hz p a P=>h1 k sc S q x J s Q EE Y r hz p (a.Og m n) P,λk sc apq B t b e c1 c2 x J s Q EE Y r hz p a P=>h2 k sc apq B t b e c1 c2 x J s Q EE Y r hz p (a.Og m n) P⟩
def aot(n:O.aj eJ=om.aj eJ)(w:∀k e,19 mJ=G e->∃v,19e1=2e4/\dG v=dG e)(h:aw d (.gk tg it i b) om mJ bI):aw d (.gk tg it i b) O T bI:=by
 intro o1 o2 k sc apq B h1 h2 h3 x dC aC q s Q EE r wr Y m hz u p apv a b c P;exact h o1 o2 k sc apq B h1 h2 h3 x dC aC q s Q EE r wr Y m hz u (p.Og n w) apv a b c P
def XF(t:al):∀l:D K,lR (265 (V.y i t))=G l
 | []=>rfl
 |i::l=>by refine(lR (265 (V.y i t))).aj (i:: ·)=_;rw[XF t l];rfl
def Oh:Tk->al:=λtk=>match tk with
 | .x e=>(e.xG.cr λp=>p.1.g?).fP (I.bZ 97)
 |_=>false
def aou(P:PP)(d:I)(O:1e0)(S:0e0)(l:D K)(h:lR S=G l):116 P 9 d (.x (170 97 [35e4])) O [(93,4e5)] []= 20 (.v (2 l.lh)) O [(93,4e5)] [] []:=by
 have e:116 P 9 d (.x (170 97 [35e4])) O [(93,4e5)] []=mA (279 (279 (AX true "sum" [4e5] (199 [(93,4e5)] [])))):=av;have s:AX true "sum" [4e5] (199 [(93,4e5)] [])= .Y (2 l.lh) (199 [(93,4e5)] []):=by
  refine gN ((G S).cr lR) 42 (λl=>R.Y (V.y l.lh true) _)=_;rw[ar.yi,h];rfl
 rw[e,s];rfl
def aov(dj:116 aw n d (.x e) O T []= 93 v O []):123 d (.x e) O T v O T:=by
 have S:=hU d n (.x e) (62 []);rw[dj]at S;exact λo1 o2=>ajy (bI:= 36 v O T) (o2:=[]) S
def aow{d:I}{O:1e0}{hF:D K}:123 d (.x (170 97 [35e4])) O [(93,352 52e8)] (2 hF.lh) O [(93,352 52e8)]:=aov (aou aw d O _ hF (XF true hF))
def Oi:15e5:=match Qg.cX with
 | [_,.mw _ _ b,_]=>b
 |_=>[]
abbrev g3:1e0:=[6e4,6e4,2e0]
def qg(m:4e8)(t:1e0):1e0:=m 0::m 1::m 2::m 3::m 4::m 5::m 6::m 7::m 8::m 9::m 10::m 11::m 12::m 13::m 14::m 15::m 16::m 17::m 18::m 19::m 20::m 21::m 22::m 23::m 24::m 25::m 26::m 27::m 28::m 29::m 30::m 31::m 32::m 33::m 34::m 35::m 36::m 37::m 38::m 39::m 40::m 41::m 42::m 43::m 44::m 45::m 46::m 47::m 48::m 49::m 50::m 51::m 52::m 53::m 54::m 55::t
abbrev sK(B:0e0):0e1:=[(38,9e0),(39,29e8),(40,29e9),(41,.Z 58)]
def aox(P:PP)(m:4e8)(B r:0e0)(k:I)(c:K)(h:c∈11::19::jS):126 P 34 Oi ⟨qg m g3,sK B++[(42,0 k),(43,.X (1e5::r))],[]⟩= 57 ⟨qg m g3,sK B++[(42,0 k),(43,.X (1e5::r)),(6,1e5)],[]⟩ []:=by revert c h;show 3e1;kernel_rfl
def aoy{m:4e8}(w:∀r∈B,uD r)(n:I):∀k:I,n+k=B.U->aw 34 (.gk (.t [42,43]) (.gM (.fB B)) k Oi) (qg m g3) (sK B) (52 (qg m g3) (sK B)):=by
 induction n with
 |i5=>
  show λk a=>Ny λF=>?_;refine G (B[k]?.aj λv=>V.X [0 k,v])=_;rw[D.q4 bN];rfl
 |hI n b=>
  intro k a;have x:k<B.U:=bN;show gd (w _ (D.NV x)) λc r e p=>?_;show y1 (v:= .X [0 k,.X (1e5::r)]) (pa:=sK B++[(42,0 k),(43,.X (1e5::r))]) (λF=>?_) (λo=>rfl) ?_ (b (k+1) bN)
  ·refine G (B[k]?.aj λv=>V.X [0 k,v])=_;rw[D.ie x,e];rfl
  ·show wb (a3:= 24e4) (f:=λi=>i) (aox aw m B r k c p) a5 ?_;exact⟨⟨λj o h=>⟨o,h,by rw[uv]⟩,λj h=>h,λj q s s h=>h,λk2 v h=>⟨v,wd (l:=sK B) (m:=[(42,V.y k false),(43,.X (1e5::r)),(6,1e5)]) h,by rw[n8]⟩⟩,λs s=>rfl,11e7⟩
def aoz(P:PP)(m:4e8)(B:0e0)(T:0e1):apy P 60 35 (22 440 [9e0]) ⟨qg m [],T,[396 Dw (52 os l)]⟩= .aT (.v (.X [29e8,29e9])) ⟨qg m g3,T,[]⟩ [P 34 (.gk (.t [42,43]) (.gM (.fB B)) 0 Oi) (qg m g3) (sK B) (52 (qg m g3) (sK B))]:=av
def aoA{m:4e8}(s:∀r∈B,uD r):123 35 (22 440 [9e0]) (qg m []) T (.X [29e8,29e9]) (qg m g3) T:=iZ (aoz aw m B T) (39 (aoy s B.U 0 H)) 17e5
def u0(sm:K)(B2:0e0)(bO:al):1e0:=[28e0,16 [12 0,12 37,12 74,12 111,12 148,12 185,12 222,12 259,12 296,12 333,12 370,12 407,12 444,12 481,12 518,12 555],16 [3e4,0e6,1e8,1e3],16 [0e6,0 6],16 [0e7,3e4,0e6],.bw [(.ag Z1,10e1),(.ag Z2,8 [13e4,13e5,13e6]),(.ag Z3,.Z 6),(.ag Z4,8 [0 6,10e8,16e9]),(.ag Z5,.Z 7),(.ag Z6,.Z 9),(.ag Z7,.Z 10),(.ag Z8,0e7),(.ag Z9,0e6),(.ag tw,2 (sm.ah 1000))],16 [2 53e6,362 (sm*7),0e6],16 [8 [3e4,0e6,1e8,1e3],8 [0e6,3e8]],16 [12 0,12 1,12 2,12 3,12 4,12 5,12 6,12 7],16 [.ch [13 0,13 1,13 2,13 3,13 4,13 5,13 6,13 7],.ch [120,121]],2e0,2e0]
def u1(sm:K)(B:0e0):1e0:=[.bv 373 [(167,4e0),(168,3e4),(169,16e9),(141,0 200),(170,0e6)],.bv 894 [(112,8 [.Z 24,.Z 33,.Z 26,.Z 34,.Z 28,.Z 30]),(113,8 [.Z 35,.Z 36,.Z 37]),(114,8 [.Z 41,.Z 43]),(115,8 [.Z 45,.Z 46,.Z 47,.Z 48])],.bv 873 [(66,38e3),(112,11e0)],.bv 852 [(186,.Z 14),(66,38e3),(112,8 [1e3,1e8,0e7,10e8,3e8,3e4]),(113,8 [1e3,0e7,1e8]),(114,8 [1e3]),(115,8 [1e8,0e7,3e4]),(116,.Z 20),(117,.Z 21),(187,.Z 16)],6e4,.bv 873 [(66,38e3),(112,11e0)],.bv 852 [(186,.Z 17),(66,38e3),(112,11e0),(113,11e0),(114,11e0),(115,8 [1e3]),(116,11e0),(117,11e0),(187,.Z 19)],6e4,16 [8 [3e4,0e6,1e8,1e3],8 [0e6,3e8]],16 [.ch [13 0,13 1,13 2,13 3,13 4,13 5,13 6,13 7],.ch [120,121]],.bv 1319 [(31,3e8),(196,5e7),(38,8 A6)],16 [.Z 24,.Z 26,.Z 28,.Z 30],177 (31,.X [.X [10e9],5e7]) (184,.Z 25),244 1e8,177 (31,.X [.X [12e9],5e7]) (184,.Z 27),244 1e3,177 (31,.X [.X [27e3],5e7]) (184,.Z 29),244 3e4,177 (31,.X [.X [34e8],5e7]) (184,.Z 31),244 10e8,.bv 1319 [(31,10e8),(196,5e7),(38,9e0)],.bv 754 [(31,.X [.X [34e8],5e7]),(182,27e6),(183,.Z 32)],.bv 754 [(31,.X [.X [12e9,10e9],.X [10e9]]),(182,.Z 18),(183,.Z 22)],.bv 677 [(31,34e8),(72,10e8),(169,16e9),(119,.Z 39)],.bv 677 [(31,27e3),(72,0 6),(169,16e9),(119,.Z 38)],.bv 677 [(31,27e3),(72,0e6),(169,16e9),(119,.Z 40)],16 [3e4,0e6,1e8,1e3],16 [0e6,0 6],16 [0e7,3e4,0e6],.bv 586 [(72,1e3),(167,4e0),(168,3e4),(162,.Z 42)],.eG [0,0,0,0,0,0,0,0,0,0,0,0,0,0,0,0],.bv 586 [(72,1e8),(167,4e0),(168,3e4),(162,.Z 44)],.eG (bW [0,0,0,0,0,0,0,0,0,0,0,0,0,0,0,0] (G 0) (G 16) [13 0,13 37,13 74,13 111,13 148,13 185,13 222,13 259,13 296,13 333,13 370,13 407,13 444,13 481,13 518,13 555]),254 [(31,10e9),(181,1e3),(60,362 (sm*7))],254 [(31,10e9),(181,0e7),(60,2 (sm.ah 1000))],254 [(31,12e9),(181,1e3),(60,2 53e6)],254 [(31,27e3),(181,1e3),(60,0e6)]]
def u2(apr:K):1e0:=[.bv 1188 [(105,21e7),(170,0e6),(141,23e1),(161,0e7),(229,0e7),(199,0e7),(231,10e6)],6e4]
def lS:I->Internal.S:=λi=>(qz.cX[i]?).ge .AR
def XG(x:K)(h:(l.dM (290 (i<256)))=true):((x.ah 256::l).dM (290 (i<256)))=true:=by
 rw[D.te,h,eF (show 0<=x.ah 256 from wn x 256 aq),eF (show x.ah 256<256 from Oe x 256 aq)];rfl
def uS1(P:PP)(S B B2:0e0)(bO:al)(sm apr:K):116 P 60 40 (186 0) [] [(93,4e5)] [298 (bT 1384) (36 9e0 [28e0] l),396 Oh (36 (2 sm) os l)]= 57 ⟨u0 sm B2 bO,[(93,4e5),(38,9e0),(98,6e3),(100,21e0)],[]⟩ [P 40 (22 1384 [4e5]) [] [(93,4e5)] (36 9e0 [28e0] [(93,4e5)]),P 39 (.x (170 97 [35e4])) [28e0] [(93,4e5)] (36 (2 sm) [28e0] [(93,4e5)]),88 0=true,88 37=true,88 74=true,88 111=true,88 148=true,88 185=true,88 222=true,88 259=true,88 296=true,88 333=true,88 370=true,88 407=true,88 444=true,88 481=true,88 518=true,88 555=true,9 sm 4294967296=true,a9 .f4 sm 7=true,361 (sm*7)=true,88 0=true,88 1=true,88 2=true,88 3=true,88 4=true,88 5=true,88 6=true,88 7=true,([((sm+0).ah 256),((sm+1).ah 256),((sm+2).ah 256),((sm+3).ah 256),((sm+4).ah 256),((sm+5).ah 256),((sm+6).ah 256),((sm+7).ah 256)].dM (290 (i<256)))=true,9 sm 1000=true]:=av
def bS1{S B B2:0e0}{bO:al}{sm apr:K}{b:15e5}(x:123 40 (22 1384 [4e5]) [] [(93,4e5)] 9e0 [28e0] [(93,4e5)])(h2:123 39 (.x (170 97 [35e4])) [28e0] [(93,4e5)] (2 sm) [28e0] [(93,4e5)])(h:ii 40 b 0 ⟨u0 sm B2 bO,[(93,4e5),(38,9e0),(98,6e3),(100,21e0)],[]⟩ bI):ii 40 (lS 0::b) 0 ⟨[],[(93,4e5)],[298 (bT 1384) (36 9e0 [28e0] l),396 Oh (36 (2 sm) os l)]⟩ bI:=mP (by have St:=203 0 ⟨[],[(93,4e5)],[298 (bT 1384) (36 9e0 [28e0] l),396 Oh (36 (2 sm) os l)]⟩;rw[uS1 aw S B B2 bO sm apr]at St;exact St) (70 x h2 H H H H H H (137 H H H H (ac H (90 H H (137 H H H H (70 (al.tR.bn 21e5) H H H H H H H (137 H H (by repeat (first|rfl|show XG _ ?_)) H a5))))))) h
def uS2(P:PP)(S B B2:0e0)(bO:al)(sm apr:K):116 P 60 40 (186 1) (u0 sm B2 bO) [(93,4e5),(38,9e0),(98,6e3),(100,21e0)] []= 57 ⟨u0 sm B2 bO++u1 sm B,[(93,4e5),(38,9e0),(98,6e3),(100,21e0),(105,21e7),(108,27e6)],[]⟩ [bM (0<=(16:K)/\16<=16777216)=true,bM (0<=(16:K)/\16<=16777216)=true,([((sm+0).ah 256),((sm+37).ah 256),((sm+74).ah 256),((sm+111).ah 256),((sm+148).ah 256),((sm+185).ah 256),((sm+222).ah 256),((sm+259).ah 256),((sm+296).ah 256),((sm+333).ah 256),((sm+370).ah 256),((sm+407).ah 256),((sm+444).ah 256),((sm+481).ah 256),((sm+518).ah 256),((sm+555).ah 256)].dM (290 (i<256)))=true,32<=16777216]:=av
def bS2{S B B2:0e0}{bO:al}{sm apr:K}{b:15e5}(h:ii 40 b 0 ⟨u0 sm B2 bO++u1 sm B,[(93,4e5),(38,9e0),(98,6e3),(100,21e0),(105,21e7),(108,27e6)],[]⟩ bI):ii 40 (lS 1::b) 0 ⟨(u0 sm B2 bO),[(93,4e5),(38,9e0),(98,6e3),(100,21e0)],[]⟩ bI:=mP (by have St:=203 1 ⟨(u0 sm B2 bO),[(93,4e5),(38,9e0),(98,6e3),(100,21e0)],[]⟩;rw[uS2 aw S B B2 bO sm apr]at St;exact St) (25 H H (by repeat (first|rfl|show XG _ ?_)) aq) h
def uS4(P:PP)(S B B2:0e0)(bO:al)(sm apr:K):116 P 60 40 (186 3) (u0 sm B2 bO++u1 sm B) [(93,4e5),(38,9e0),(98,6e3),(100,21e0),(105,21e7),(108,27e6),(141,23e1)] []= 57 ⟨u0 sm B2 bO++(u1 sm B++u2 apr),[(93,4e5),(38,9e0),(98,6e3),(100,21e0),(105,21e7),(108,27e6),(141,23e1),(155,.Z 49)],[]⟩ []:=av
def bS4{S B B2:0e0}{bO:al}{sm apr:K}{b:15e5}(h:ii 40 b 0 ⟨u0 sm B2 bO++(u1 sm B++u2 apr),[(93,4e5),(38,9e0),(98,6e3),(100,21e0),(105,21e7),(108,27e6),(141,23e1),(155,.Z 49)],[]⟩ bI):ii 40 (lS 3::b) 0 ⟨(u0 sm B2 bO++u1 sm B),[(93,4e5),(38,9e0),(98,6e3),(100,21e0),(105,21e7),(108,27e6),(141,23e1)],[]⟩ bI:=mP (by have St:=203 3 ⟨(u0 sm B2 bO++u1 sm B),[(93,4e5),(38,9e0),(98,6e3),(100,21e0),(105,21e7),(108,27e6),(141,23e1)],[]⟩;rw[uS4 aw S B B2 bO sm apr]at St;exact St) a5 h
def aoB{n:I}{os:1e0}(t:al)(l:D K):111 (n+1) os (265 (V.y i t))=G (l.aj cm.y):=by
 induction l with
 |aR=>rfl
 |aQ i l ih=>
  refine((111 (n+1) os (265 (V.y i t))).aj (cm.y i:: ·))=_;rw[ih];rfl
def ne_nil{os:1e0}{T:0e1}{bG:2e1}{x:K}{l:D K}:∃t,lT .gL (6 (6e6::265 37e7)) 11e0 ⟨os,T,bG⟩=G (true,t):=by
 have h:eO 12 os (6 (6e6::265 37e7))=G (.az (cm.y x::l.aj cm.y)):=by
  refine(111 11 os ((x::l).aj 52e8)).aj cm.az=_;rw[aoB];rfl
 show⟨true,?_⟩;refine xx (pD os _ _)=_;unfold pD;rw[h];rfl
def aoC(P:PP)(O:1e0)(v1 v2 v3 v4 v5:V):116 P 60 40 (186 2) O [(93,40e7),(38,v1),(98,v2),(100,v3),(105,v4),(108,v5)] [8e9]= 20 24e4 O [(93,40e7),(38,v1),(98,v2),(100,v3),(105,v4),(108,v5),(141,3e4)] [] [∃t,lT .gL 40e7 11e0 (199 [(93,40e7),(38,v1),(98,v2),(100,v3),(105,v4),(108,v5)] [8e9])=G (false,t)]:=av
def aoD(P:PP)(O:1e0)(S2:0e0)(x:K)(c:al)(v1 v2 v3 v4 v5:V):116 P 60 40 (186 2) O [(93,6 (6e6::S2)),(38,v1),(98,v2),(100,v3),(105,v4),(108,v5)] [34e0,.b c]= 20 24e4 O [(93,6 (6e6::S2)),(38,v1),(98,v2),(100,v3),(105,v4),(108,v5),(141,0 (if c=true then 1 else 3))] [] [∃t,lT .gL (6 (6e6::S2)) 11e0 (199 [(93,6 (6e6::S2)),(38,v1),(98,v2),(100,v3),(105,v4),(108,v5)] [34e0,.b c])=G (true,t),9 x 5=true,((x.ah 5)==0)=c]:=by cases c<;>kernel_rfl
def bS3{hF:D K}{O:1e0}{v1 v2 v3 v4 v5:V}{b:15e5}(h:∀apr:K,(apr=1\/apr=3)->ii 40 b 0 (199 [(93,352 52e8),(38,v1),(98,v2),(100,v3),(105,v4),(108,v5),(141,23e1)] []) bI):∃o,ii 40 (lS 2::b) 0 (199 [(93,352 52e8),(38,v1),(98,v2),(100,v3),(105,v4),(108,v5)] o) bI:=by
 cases hF with
 |aR=>
  have St:=203 2 (199 [(93,40e7),(38,v1),(98,v2),(100,v3),(105,v4),(108,v5)] [8e9]);rw[aoC aw O v1 v2 v3 v4 v5]at St;exact⟨[8e9],mP St (39 ⟨true,H⟩) (h 3 21e5)⟩
 |aQ x l=>
  have St:=203 2 (199 [(93,6 (6e6::265 37e7)),(38,v1),(98,v2),(100,v3),(105,v4),(108,v5)] [34e0,.b ((x.ah 5)==0)]);rw[aoD aw O _ x _ v1 v2 v3 v4 v5]at St;show⟨[34e0,.b ((x.ah 5)==0)],mP St (130 ne_nil H H) (h _ ?_)⟩;by_cases s:((x.ah 5)==0)=true
  ·rw[eY s];exact 2e6
  ·rw[d6 s];exact 21e5
def wq(sm:K):4e9:=[13 0,13 37,13 74,13 111,13 148,13 185,13 222,13 259,13 296,13 333,13 370,13 407,13 444,13 481,13 518,13 555]
def Oj(sm s:K)(oc B B2:0e0)(bO:al):1e0:=[28e0,37 oc,37 [3e4,0e6,1e8,1e3],37 [0e6,0 6],37 [0e7,3e4,0e6],.bw [(.ag Z1,10e1),(.ag Z2,8 [13e4,13e5,13e6]),(.ag Z3,.Z 6),(.ag Z4,8 [0 6,10e8,16e9]),(.ag Z5,.Z 7),(.ag Z6,.Z 9),(.ag Z7,.Z 10),(.ag Z8,12e8),(.ag Z9,0e6),(.ag tw,2 (sm.ah 1000))],16 [2 53e6,362 (sm*7),0e6],16 [6 [3e4,0e6,1e8,1e3],6 [0e6,3e8]],16 [12 0,12 1,12 2,12 3,12 4,12 5,12 6,12 7],16 [.ch [13 0,13 1,13 2,13 3,13 4,13 5,13 6,13 7],.ch [120,121]],20e1,2e0,.bv 373 [(167,4e0),(168,3e4),(169,16e9),(141,0 200),(170,0e6)],2e0,.bv 873 [(66,38e3),(112,11e0)],2e0,6e4,.bv 873 [(66,38e3),(112,11e0)],2e0,6e4,2e0,2e0,2e0,16 [.Z 24,.Z 26,.Z 28,.Z 30],2e0,2e0,2e0,2e0,2e0,2e0,2e0,2e0,.bv 1319 [(31,10e8),(196,5e7),(38,9e0)],2e0,2e0,2e0,2e0,2e0,2e0,2e0,2e0,2e0,.eG [0,0,0,0,0,0,0,0,0,0,0,0,0,0,0,0],2e0,2e0,2e0,2e0,2e0,2e0,2e0,2e0,2e0,16 [0 9],2e0,2e0,2e0,6e4,6e4,2e0,2e0,.bv 922 [(189,0e8),(190,0e7),(191,0e7),(192,30e8)],2e0]
def Ol(sm:K)(B B2:0e0)(bO:al):1e0:=Oj sm B.U ((wq sm).aj bB) B B2 bO
def i3(sm apr:K)(B B2:0e0)(bO:al):MB:={m:=λi=>((Ol sm B B2 bO)[i]?).ge 2e0,B:=B,fc:=sm.ah 1000,apr:=apr,aO:=wq sm,T0:=[3e4,0e6,1e8,1e3],T1:=[0e6,0 6],T2:=[0e7,3e4,0e6],c0:=53e6,c1:=(sm*7).ah 18446744073709551616,c2:= 0e6,e0:= 6 [3e4,0e6,1e8,1e3],e1:= 6 [0e6,3e8],d0:= .ch [13 0,13 1,13 2,13 3,13 4,13 5,13 6,13 7],d1:= .ch [120,121],no:=[],nl:=[],gw:=0,pk:=1,g:=[]}
def v4(sm apr:K)(B B2:0e0)(bO:al):1e0:=(28 55 [] [] 0 [] [] {i3 sm apr B B2 bO with pk:=0} []).fI 51
abbrev eb(apr:K)(S B:0e0):0e1:=[(93,4e5),(38,9e0),(98,6e3),(100,21e0),(105,21e7),(108,27e6),(141,23e1),(155,.Z 49)]
def aoE(sm:K):eJ (16 [12 0,12 37,12 74,12 111,12 148,12 185,12 222,12 259,12 296,12 333,12 370,12 407,12 444,12 481,12 518,12 555])=eJ (37 ((wq sm).aj bB)):=by
 have h:∀i:K,bB (280 (i.ah 256))= 2 (i.ah 256):=λi=>NZ _ (by rw[mb _ aq];exact⟨K.ni _ aq,K.og _ aq⟩);have e:(wq sm).aj bB=[12 0,12 37,12 74,12 111,12 148,12 185,12 222,12 259,12 296,12 333,12 370,12 407,12 444,12 481,12 518,12 555]:=by simp only[wq,D.nZ,D.map_nil,h]
 rw[e];rfl
def aoF(sm apr:K)(B B2:0e0)(bO:al):(u0 sm B2 bO++(u1 sm B++u2 apr)).aj eJ=(v4 sm apr B B2 bO).aj eJ:=by
 have h:∀(A s:aps) (l l':1e0) (x:aps),eJ A=eJ s->l.aj eJ=l'.aj eJ->(x::A::l).aj eJ=(x::s::l').aj eJ:=λA s l l' x h1 h2=>by rw[D.nZ,D.nZ,D.nZ,D.nZ,h1,h2]
 exact h _ _ ((u0 sm B2 bO++(u1 sm B++u2 apr)).fi 2) ((v4 sm apr B B2 bO).fi 2) 28e0 (aoE sm) H
def aoG:Tk->al:=λtk=>match tk with
 | .s (.lQ _ _)=>true
 |_=>false
def o7(apr:K):1e0:=[.bv 1188 [(105,21e7),(170,0e6),(141,23e1),(161,12e8),(229,12e8),(199,0e7),(231,10e6)],6e4,.bv 1293 [(155,.Z 49),(105,21e7),(199,0e7),(132,.Z 55),(200,.Z 53),(201,30e8)],16 [0 9],2e0,2e0,2e0]
def zp(sm apr:K)(B B2:0e0)(bO:al)(t:1e0):1e0:=(28 55 [] [] 0 [] [] 18e2 []).fI 49++(o7 apr++t)
def w13(apr:K)(B:0e0):1e0:=[.bv 1188 [(105,21e7),(170,0e6),(141,23e1),(161,12e8),(229,2 1),(199,0e7),(231,10e6)],.bw [(1e3,.X [29e8,29e9])],.bv 1293 [(155,.Z 49),(105,21e7),(199,0e7),(132,.Z 55),(200,.Z 53),(201,30e8)],16 [0 9],16 [3e7],2e0,2e0,6e4,6e4,2e0,.bv 957 [(126,1e3),(182,27e6),(38,9e0),(190,0e7),(39,29e8),(40,29e9),(196,6 [0 9]),(195,0e7),(42,0e7),(197,.Z 61)],.bv 922 [(189,2 (B.U:K)),(190,0e7),(191,0e7),(192,30e8)],16 [6e0]]
def Om(sm apr:K)(B B2:0e0)(bO:al):1e0:=(28 55 [] [] 0 [] [] 18e2 []).fI 49++w13 apr B
abbrev sL(bI:fk):2e1:=[396 (bT 440) (36 (.X [29e8,29e9]) (os++g3) l),.ed aoG λs s s=>bI]
abbrev Dx(P:PP)(sm apr:K)(B B2:0e0)(bO:al)(bI:fk):6e1:=[1<=16777216,P 35 (22 440 [9e0]) (zp sm apr B B2 bO []) [(164,.Z 49),(126,1e3)] (36 (.X [29e8,29e9]) (zp sm apr B B2 bO []++g3) [(164,.Z 49),(126,1e3)]),P 38 (.s (.lQ rU mB)) (Om sm apr B B2 bO) [(164,7e9),(9,0e6),(203,0e7)] bI]
def aoH(P:PP)(S B B2:0e0)(bO:al)(sm apr:K)(x:apr=1\/apr=3)(b:MB)(s:5e6)(k c:K)(h:0e0):apy P 60 40 (186 4) ⟨v4 sm apr B B2 bO,10e5,sL (52 (28 55 s [] k h [] b []) (dK c))⟩= 57 (87 (28 55 s [] k h [] b []) (157,.X [28e7,5e7]) []) (Dx P sm apr B B2 bO (52 (28 55 s [] k h [] b []) (dK c))):=by rcases x with H|rfl<;>kernel_rfl
def aoI(P:PP)(S B B2:0e0)(bO:al)(sm apr:K)(a:apr=1\/apr=3)(b:MB)(h:5e6)(k c:K)(x s:0e0)(apw:aps)(E:1e0)(hX:apw= .au []\/apw= 20e1)(e:E=[]\/E=js):apy P 60 40 (186 4) ⟨v4 sm apr B B2 bO,10e5,sL (52 (28 62 h [] k x s b (apw::E)) (dK c))⟩= 57 (87 (28 62 h [] k x s b (apw::E)) (157,.X [28e7,5e7]) []) (Dx P sm apr B B2 bO (52 (28 62 h [] k x s b (apw::E)) (dK c))):=by rcases a with H|rfl<;>rcases hX with H|rfl<;>rcases e with H|rfl<;>kernel_rfl
def aoJ(P:PP)(S B B2:0e0)(bO:al)(sm apr:K)(s:apr=1\/apr=3)(sh:Sh)(hs:15e0)(b:MB)(k:K)(au:0e0)(z:am):apy P 60 40 (186 4) ⟨v4 sm apr B B2 bO,10e5,sL (206 (b1 sh b k []).U b k au 51 [(58,7e8)] [])⟩= 57 (87 (139 b k au 51 [(58,7e8)]) (157,.X [.ag rK,7e8]) []) (Dx P sm apr B B2 bO (206 (b1 sh b k []).U b k au 51 [(58,7e8)] [])):=by rcases s with H|rfl<;>rcases hs with H|rfl|rfl<;>kernel_rfl
def aoK(P:PP)(S B B2:0e0)(bO:al)(sm apr:K)(s:apr=1\/apr=3)(sh:Sh)(hs:15e0)(b:MB)(k:K)(au:0e0):apy P 60 40 (186 4) ⟨v4 sm apr B B2 bO,10e5,sL (206 (b1 sh b k []).U b k au 63 [(58,14e5)] [])⟩= 57 (87 (139 b k au 63 [(58,14e5)]) (157,.X [25e3,14e5]) []) (Dx P sm apr B B2 bO (206 (b1 sh b k []).U b k au 63 [(58,14e5)] [])):=by rcases s with H|rfl<;>rcases hs with H|rfl|rfl<;>kernel_rfl
def zq:4e9:=[0,0,0,0,0,0,0,0,0,0,0,0,0,0,0,0]
def j5(b:MB)(a:aI):1e0:=[b.m 0,b.m 1,b.m 2,b.m 3,b.m 4,b.m 5,b.m 6,b.m 7,b.m 8,b.m 9,b.m 10,37 b.no,b.m 12,.bv 894 [(112,8 [.Z 24,.Z 33,.Z 26,.Z 34,.Z 28,.Z 30]),(113,8 [.Z 35,.Z 36,.Z 37]),(114,8 [.Z 41,.Z 43]),(115,8 [.Z 45,.Z 46,.Z 47,.Z 48])],b.m 14,.bv 852 [(186,.Z 14),(66,38e3),(112,8 [1e3,1e8,0e7,10e8,3e8,3e4]),(113,8 [1e3,0e7,1e8]),(114,8 [1e3]),(115,8 [1e8,0e7,3e4]),(116,.Z 20),(117,.Z 21),(187,.Z 16)],b.m 16,b.m 17,.bv 852 [(186,.Z 17),(66,38e3),(112,11e0),(113,11e0),(114,11e0),(115,8 [1e3]),(116,11e0),(117,11e0),(187,.Z 19)],b.m 19,16 [b.e0,b.e1],16 [b.d0,b.d1],.bv 1319 [(31,3e8),(196,5e7),(38,8 A6)],b.m 23,177 (31,.X [.X [10e9],5e7]) (184,.Z 25),244 1e8,177 (31,.X [.X [12e9],5e7]) (184,.Z 27),244 1e3,177 (31,.X [.X [27e3],5e7]) (184,.Z 29),244 3e4,177 (31,.X [.X [34e8],5e7]) (184,.Z 31),244 10e8,b.m 32,.bv 754 [(31,.X [.X [34e8],5e7]),(182,27e6),(183,.Z 32)],.bv 754 [(31,.X [.X [12e9,10e9],.X [10e9]]),(182,.Z 18),(183,.Z 22)],.bv 677 [(31,34e8),(72,10e8),(169,16e9),(119,.Z 39)],.bv 677 [(31,27e3),(72,0 6),(169,16e9),(119,.Z 38)],.bv 677 [(31,27e3),(72,0e6),(169,16e9),(119,.Z 40)],37 b.T0,37 b.T1,37 b.T2,.bv 586 [(72,1e3),(167,4e0),(168,3e4),(162,.Z 42)],.eG zq,.bv 586 [(72,1e8),(167,4e0),(168,3e4),(162,.Z 44)],.eG b.aO,254 [(31,10e9),(181,1e3),(60,31e1)],254 [(31,10e9),(181,0e7),(60,33e8)],254 [(31,12e9),(181,1e3),(60,31e2)],254 [(31,27e3),(181,1e3),(60,b.c2)],.bv 1188 [(105,21e7),(170,0e6),(141,49e0),(161,2 b.gw),(229,2 b.pk),(199,0e7),(231,26e0)]]
def fB(n:I)(f:I->I):Prop:=∀j,j<n->f j=j
def aoL(b:MB)(a:aI)(apu f:I->I)(e:(λj=>cC (I.jP j 50) j (apu j))=f):(j5 b a).aj (f9 f)=j5 (b.o9 f) a:=by
 subst e;kernel_rfl
def XH(hm:∀i f,fB 50 f->f9 f 30e0=30e0)(h:l7 b){f:I->I}(s:fB 50 f):(j5 b a).aj (f9 f)=j5 b a:=(aoL b a f f (NH 50 s)).aV (bC (j5 · a) (MB.Ww h λi=>hm i f s))
def aoM(b:MB):MB:={b with m:=λi=>142 i 42 (.eG zq) 30e0}
def aoN(h:b.m 42= .eG zq):aoM b=b:=bC (λm=>{b with m:=m}) (funext λi=>by
 cases e:I.bZ i 42 with
 |true=>rw[I.f0 e,h];rfl
 |false=>rfl)
def me{d apC:I}{b:15e5}{O:1e0}{T:0e1}{o1 o2:2e1}(h:ii d b apC 29e2 bI):ii d b apC (62 o2) bI:=
 λk sc B r x J aC h0 s Q EE Y a hz m p e apv P=>h k sc B r x J aC h0 s Q EE Y a hz m p (gQ e) apv P
def setO_tk(O:1e0)(j:I)(x:aps)(h:j<O.U):(my O j x).fI (j+1)=O.fI j++[x]:=by
 induction O generalizing j with
 |aR=>exact bL h (I.K9 _)
 |aQ o l ih=>
  cases j with
  |i5=>rfl
  |hI j=>exact bC (D.aQ o) (ih j (I.RI h))
def Dy(hm:∀i f,fB 50 f->f9 f 30e0=30e0)(u:b.m 42= .eG zq)(q:l7 b){S:I}{r:5e6}{fr l x:0e0}{k:K}{w:al}{aD:1e0}{T:0e1}{bG:2e1}{F:15e5}(m:∀k v,19e1=2e4->∀f,fB 50 f->15e3=v)(h:∀a,ii 40 F 0 ⟨j5 b a,T,[]⟩ bI):ii 40 F 0 ⟨dE S r fr k l x w b aD,T,bG⟩ bI:=by
 show aj5 (i:=50) (j:=49) (n:=231) H H λa=>?_;have s:∀n,fB 50 (gn (D.dS 50) n):=λn j p=>by
  unfold gn;rw[D.uu p];rfl
 show yZ (gb.sF (fW:=D.dS 50) (eW:=j5 b a) (hT:=T) ?_ D.WX (λk v e=>⟨v,e,by rw[m k v e _ (s _)]⟩) H) λbG=>me (h a);generalize D.U _=n;rw[C3,XH hm q (s n),<-aoN u];kernel_rfl
def XI{l:1e0}{f:I->I}(h:l.aj (f9 f)=l)(i:I):f9 f ((l[i]?).ge 2e0)=(l[i]?).ge 2e0:=by
 have e:=bC (·[i]?) h;simp only[D.n4]at e;cases q:l[i]? with
 |L=>rfl
 |G o=>rw[q]at e;exact 11e6
def aoO(sm s:K)(oc B B2:0e0)(bO:al)(apu f:I->I)(e:(λj=>cC (I.jP j 50) j (apu j))=f):(Oj sm s oc B B2 bO).aj (f9 f)=Oj sm s (bQ f oc) (bQ f B) (bQ f B2) bO:=by
 subst e;kernel_rfl
def aoP(x:21 B B)(h:21 B2 B2){f:I->I}(s:fB 50 f):(Ol sm B B2 bO).aj (f9 f)=Ol sm B B2 bO:=by
 have e:=aoO sm B.U ((wq sm).aj bB) B B2 bO f f (NH 50 s);rw[x,h,oi]at e;exact e
section
variable{sm apr:K}{B B2:D V}{bO:al}
def aoQ(x:21 B B)(h:21 B2 B2):∀i f,fB 50 f->f9 f ((18e2).m i)=(18e2).m i:=λi f s=>XI (aoP x h s) i
def sM(h:0<=n/\n<6):KV .rf (0 n):= 247 n H h
def aoR(s:apr=1\/apr=3)(e:∀f,bQ f B=B)(x:B.U<=1000):c8 (i3 sm apr B B2 bO) 0 []where
 aO:= .a4 H
 T0:=⟨mE (sM aq) (mE (.a4 H) (mE (sM aq) (mE (sM aq) mN))),by refine 4<=6;decide⟩
 T1:=⟨mE (.a4 H) (mE (.aE ⟨_,H⟩) mN),by refine 2<=4;decide⟩
 T2:=⟨mE (sM aq) (mE (sM aq) (mE (.a4 H) mN)),by refine 3<=7;decide⟩
 c0:=by refine 0<=sm.ah 4294967296/\sm.ah 4294967296<4294967296;rw[mb _ aq];exact⟨K.ni _ aq,K.og _ aq⟩
 c1:=by refine 0<=(sm*7).ah 18446744073709551616/\(sm*7).ah 18446744073709551616<18446744073709551616;rw[mb _ aq];exact⟨K.ni _ aq,K.og _ aq⟩
 c2:= .a4 H
 e0:= .aE ⟨_,H,mE (sM aq) (mE (.a4 H) (mE (sM aq) (mE (sM aq) mN))),H⟩
 e1:= .aE ⟨_,H,mE (.a4 H) (mE (.aE ⟨_,H⟩) mN),H⟩
 d0:= .aE ⟨_,H,H⟩
 d1:= .aE ⟨_,H,H⟩
 no:=H
 nl:=H
 ns:=⟨λp a=>(nomatch a),I.eD _⟩
 fc:=by refine 0<=sm.ah 1000/\sm.ah 1000<1000;rw[mb _ aq];exact⟨K.ni _ aq,K.og _ aq⟩
 apr:=s
 g:=λv h=>nomatch h
 B:=⟨e,x⟩
universe e
def zr(s:V):Prop:=(∀f,73 s=s)/\∀os,∃d,eO 12 os s=G d/\d.jw=true
def XJ(hs:cm.rM s=true)(hz:cm.rM z=true):zr (.X [.ag s,7e8]):=by
 show⟨λf=>rfl,λos=>⟨.qA [.ag s,7e8],?_,?_⟩⟩
 ·refine(111 11 os [.ag s,7e8]).aj cm.qA=_;have h1:eO 11 os (.ag s)=G (.ag s):=by
   refine(match cm.rM s with|true=>G (cm.ag s)|false=>L)=_;rw[hs]
  have h2:eO 11 os 7e8=G 7e8:=by
   refine(match cm.rM z with|true=>G (cm.ag z)|false=>L)=_;rw[hz]
  refine((eO 11 os (.ag s)).cr λd=>((eO 11 os 7e8).cr λd=>G [d]).aj (d:: ·)).aj cm.qA=_;rw[h1,h2];rfl
 ·simp only[cm.jw,cm.qN,hs,hz,al.tf]
def Dz:zr (.X [28e7,5e7]):=⟨λf=>rfl,λos=>⟨.qA [28e7,.qA []],av,av⟩⟩
section
variable{S B B2:D V}{bO:al}{sm apr:K}
def aoS:(Om sm apr B B2 bO).aj eJ=(ja .a 18e2 (0:I) []).aj eJ:=H
def aoT{apu:K->fk}(h:MC .a 18e2 0 [] apu):aw 38 (.s (.lQ rU mB)) (Om sm apr B B2 bO) [(164,7e9),(9,0e6),(203,0e7)] (apu 0):=by
 show aos (om:=ja .a 18e2 (0:I) []) (mJ:=dK 0) aoS (λk v e=>?_) (ajZ λo1 o2=>NI (h 0 o2));have hm:=iX e;simp only[dK,D.eS,kF.mk.fv,D.mq,mr]at hm;rcases hm with⟨H,H⟩|⟨H,H⟩|⟨H,H⟩
 ·exact(51 H)
 ·exact(51 H)
 ·exact(51 H)
def aoU(s:∀r∈B,uD r):123 35 (22 440 [9e0]) (zp sm apr B B2 bO []) T (.X [29e8,29e9]) (zp sm apr B B2 bO []++g3) T:=aoA (m:=λi=>((zp sm apr B B2 bO [])[i]?).ge 2e0) s
def zs(h:21 S S)(x:21 B B)(a:∀f,73 gp=gp):∀k v,19 (10e5++[(157,gp)])=2e4->∀f,fB 50 f->15e3=v:=by
 intro k v e f s;have hm:=iX e;clear e;simp only[eb,D.NM,D.uS,D.eS,kF.mk.fv,D.mq,mr]at hm;rcases hm with⟨_,H⟩|⟨_,H⟩|⟨_,H⟩|⟨_,H⟩|⟨_,H⟩|⟨_,H⟩|⟨_,H⟩|⟨_,H⟩|⟨_,H⟩
 ·exact bC (V.ad · _) (h _)
 ·exact bC (V.ad · _) (x _)
 ·exact bC V.Z (s 5 aq)
 ·exact bC V.Z (s 11 aq)
 ·exact bC V.Z (s 13 aq)
 ·exact bC V.Z (s 15 aq)
 ·rfl
 ·exact bC V.Z (s 49 aq)
 ·exact a f
def bS5(w:apr=1\/apr=3)(apC:qf B [])(apt:∀r∈B,uD r)(apy:B.U<=1000)(n:21 B B)(apz:21 B2 B2)(t:21 S S){F:15e5}
  (h:∀p en cB x R V a,zr p->l7 x->(∀i f,fB 50 f->f9 f (x.m i)=x.m i)->(∀f,41e0=en)->(∀f,bQ f cB=cB)->c8 x R V->x.m=(18e2).m->x.fc=(18e2).fc->x.apr=apr->
   (∀mL,ku 51 mL->LC (183 18e2) 0 [] (.Y (105 p) (dc (183 x) (x.aO.aj bB) en cB) (b2 18e2)))->
   ii 40 F 0 (87 (j5 x a) (157,p) []) bI):∃o,ii 40 (lS 4::F) 0 ⟨v4 sm apr B B2 bO,10e5,o⟩ bI:=by
 have hm:=aoQ (sm:=sm) (apr:=apr) (bO:=bO) n apz;have C:ku 62 (18e2).m:=λi f apA=>hm i f λj apB=>apA j (I.yu apB aq);have apx:=aoR (sm:=sm) (B2:=B2) (bO:=bO) w n apy;obtain(⟨apu,p,en,cB,x,R,V,A,apE,apv,W,e1,e2,e3,e4,e5,apH⟩):=apC (mL:=λapq=> 2e0) (sh:= .a) (b:=18e2) (b0:=18e2) (k:=0) (ns:=[]) (au:=[]) apx C (λapq apq apq=>rfl) 2e6 H ⟨H,H,H,H⟩ d2;have v:∀i f,fB 50 f->f9 f (x.m i)=x.m i:=λi f apA=>by rw[e1];exact hm i f apA
 have l:l7 x:=W.wf (by rw[e1];exact C);have P:x.m 42= .eG zq:=by rw[e1];rfl
 have u:=aoT (bO:=bO) (B2:=B2) (sm:=sm) (apr:=apr) (B:=B) A;clear A;have d:=aoU (sm:=sm) (apr:=apr) (B2:=B2) (bO:=bO) apt (T:=[(164,.Z 49),(126,1e3)]);have cR:zr p->∀a,ii 40 F 0 (87 (j5 x a) (157,p) []) bI:=λm a=>h p en cB x R V a m l v e5 apH W e1 e3 (e4.aV H) apE;clear apE;obtain(⟨e,aps,g,k,app,apD,aD,c,H,q⟩|⟨z,e,hz,sh,k,au,h3,H⟩|⟨e,sh,k,au,h3,H⟩):=apv
 ·subst e;rcases q with⟨H,H,H⟩|⟨H,apw,E,hX,apF,H⟩
  ·have St:=203 4 ⟨v4 sm apr B B2 bO,10e5,sL (52 (28 55 g [] k app [] x []) (dK (0+c)))⟩;rw[aoH aw S B B2 bO sm apr w x g k (0+c) app]at St;exact⟨_,mP St (130 aq d u) (Dy v P l (zs t n Dz.1) (cR Dz))⟩
  ·have St:=203 4 ⟨v4 sm apr B B2 bO,10e5,sL (52 (28 62 g [] k app apD x (apw::E)) (dK (0+c)))⟩;rw[aoI aw S B B2 bO sm apr w x g k (0+c) app apD apw E hX apF]at St;exact⟨_,mP St (130 aq d u) (Dy v P l (zs t n Dz.1) (cR Dz))⟩
 ·subst e;have m:=XJ (s:=rK) av hz;have St:=203 4 ⟨v4 sm apr B B2 bO,10e5,sL (206 (b1 sh x k []).U x k au 51 [(58,7e8)] [])⟩;rw[aoJ aw S B B2 bO sm apr w sh h3 x k au z]at St;show⟨_,mP St (130 aq d u) ?_⟩;rcases h3 with H|rfl|rfl<;>exact Dy v P l (zs t n m.1) (cR m)
 ·subst e;have m:=XJ (s:=kb) (z:=h9) av av;have St:=203 4 ⟨v4 sm apr B B2 bO,10e5,sL (206 (b1 sh x k []).U x k au 63 [(58,14e5)] [])⟩;rw[aoK aw S B B2 bO sm apr w sh h3 x k au]at St;show⟨_,mP St (130 aq d u) ?_⟩;clear u St;rcases h3 with H|rfl|rfl<;>exact Dy v P l (zs t n m.1) (cR m)
universe e
def wt(b:MB)(a:aI):4e8:=λi=>((j5 b a)[i]?).ge 2e0
def c9(b:MB)(a:aI)(en:V)(s:0e0):1e0:=dc (lw (wt b a) b) 4e2 en s
abbrev qq(op:jn)(x app:V)(O:1e0)(T:0e1)(o:2e1)(c:al):Prop:=∃t,lT op x app (62 o)=G (c,t)
def uS6(P:PP)(b:MB)(a:aI)(S B:0e0)(apr:K)(s en:V)(h:0e0):apy P 60 40 (186 5) (87 (j5 b a) (157,s) [262 1455 s (66 b h),8e9,8e9,8e9])= 57 (87 (66 b h) (157,s) []) [P 40 (22 1455 [6e3,9e0,23e1]) (j5 b a) (10e5++[(157,s)]) (36 s (66 b h) (10e5++[(157,s)])),qq .gL (s) (s) (66 b h) (10e5++[(157,s)]) [8e9,8e9,8e9] false,qq .gL (2 b.gw) (2 b.gw) (66 b h) (10e5++[(157,s)]) [8e9,8e9] false,qq .gL 21e0 (.Z 10) (66 b h) (10e5++[(157,s)]) [8e9] false]:=av
def uS7(P:PP)(b:MB)(a:aI)(S B:0e0)(apr:K)(h en:V)(s:0e0):apy P 60 40 (186 6) (87 (66 b s) (157,h) [8e9])= 57 ⟨66 b s++[16 [6 b.T0,6 b.T1,6 b.T2]],10e5++[(157,h)],[]⟩ [b.T0.U<=16777216,b.T1.U<=16777216,b.T2.U<=16777216,qq .gL 7e9 (8 [13e4,13e5,13e6]) (66 b s++[16 [6 b.T0,6 b.T1,6 b.T2]]) (10e5++[(157,h)]) [8e9] false]:=av
def uS8(P:PP)(b:MB)(a:aI)(S B:0e0)(apr:K)(h en:V)(s:0e0):apy P 60 40 (186 7) (87 (66 b s) (157,h) [8e9,8e9])= 57 (87 (66 b s) (157,h) []) [qq .gL (6 4e2) 10e1 (66 b s) (10e5++[(157,h)]) [8e9,8e9] false,qq .gL (6 [12e8,12e8,12e8,12e8,12e8,12e8,12e8,12e8,12e8,12e8,12e8,12e8,12e8,12e8,12e8,12e8]) (8 [0e7,0e7,0e7,0e7,0e7,0e7,0e7,0e7,0e7,0e7,0e7,0e7,0e7,0e7,0e7,0e7]) (66 b s) (10e5++[(157,h)]) [8e9] false]:=av
def aoV(P:PP)(b:MB)(a:aI)(S B:0e0)(apr:K)(h en:V)(s:0e0):apy P 60 40 (186 8) (87 (66 44e7 s) (157,h) [8e9])= 57 ⟨66 44e7 s++[16 [31e1,33e8,31e2,0e6]],10e5++[(157,h)],[]⟩ [qq .gL 7e9 (8 [31e1,33e8,31e2,0e6]) (66 44e7 s++[16 [31e1,33e8,31e2,0e6]]) (10e5++[(157,h)]) [8e9] false]:=av
def aoW(P:PP)(b:MB)(a:aI)(S B:0e0)(apr:K)(h en:V)(s:0e0)(n:K):apy P 60 40 (186 8) (87 (66 (338 n) s) (157,h) [8e9])= 57 ⟨66 (338 n) s++[16 [31e1,33e8,31e2,0 n]],10e5++[(157,h)],[]⟩ [qq .gL 7e9 (8 [31e1,33e8,31e2,0 n]) (66 (338 n) s++[16 [31e1,33e8,31e2,0 n]]) (10e5++[(157,h)]) [8e9] false]:=av
def aoX(P:PP)(b:MB)(a:aI)(S B:0e0)(apr:K)(h en:V)(s:0e0):126 P 40 [lS 9] (87 (66 b s) (157,h) [34e0,34e0])= .aT 45e5 (87 (66 b s) (157,h) []) [qq .Eq (.Z 20) (.Z 7) (66 b s) (10e5++[(157,h)]) [34e0,34e0] true,qq .Eq (.Z 21) (.Z 9) (66 b s) (10e5++[(157,h)]) [34e0] true]:=av
def aoY(P:PP)(b:MB)(a:aI)(B:0e0)(apr:K)(s:V)(T x:0e1)(mo:1e0):apy P 60 40 (22 1455 [6e3,9e0,23e1]) ⟨j5 b a,T,[.ed Dw λh h h=> .Y (105 s) mo x]⟩= 93 s mo [P 39 (.gk (.n 131) (357 B) 0 qH) (j5 b a++[2e0]) [(98,6e3),(38,9e0),(141,23e1),(132,10e6)] (.Y (105 s) mo x)]:=av
def aoZ:qz.cX=[lS 0,lS 1,lS 2,lS 3,lS 4,lS 5,lS 6,lS 7,lS 8,lS 9]:=av
set_option backward.match.sparseCases true
def XK:Prop:=∀hF:D K,hF.U<=63->∃t,ii 40 qz.cX 0 ⟨[],[(93,352 47e9)],[]⟩ (20 (105 (.bp true t)) [] [] [] [])
inductive ao0 (bc:gT) (w:eB) (t:b5 kB) (s:ae) (R:mf->ae->Prop):Prop
 |mk (n:I) (r:mf) (s' s'':ae) (a:schedN (rt kI) bc w n (.Ug s ⟨t,.bJ "claim.caller" {},nu,[]⟩)= .halted (On r) s') (b:runN (rt kI) bc w n s ⟨t,.bJ "claim.caller" {},nu,[]⟩= .halted (On r) s') (c:s'.forget=s''.forget) (d:R r s'')
def ao1{R:43e9}(i:s.Jz)
  (h:134 mR t (λeg s'=>∃f,eg= .kz f/\(219 f s'/\Oo s'.dD=false)) (λe s'=>R (.dJ e) s'/\Oo s'.dD=false) s):
  ao0 bc w t s R:=by
 have b:b5.wp 6e2 ⟨.bJ "claim.caller" {},L,L,[],L⟩ t (b5.finPost 6e2 ⟨.bJ "claim.caller" {},L,L,[],L⟩ λr s'=>R r s'/\Oo s'.dD=false) (λe x s'=>R (.dJ e) s'/\Oo s'.dD=false) nu s:=by
  show b5.zy _ _ t (λeg l s' h'=>?_) (λx x x h'=>h') nu s (h _ nu caller_in H λc k=>nomatch k);(show aN h' λf m v=>?_;try clear h';subst m);exact v
 show qi (wp_halts_full (apB:=6e2) (R:=R) i b) λn r p u hs a q j=>?_;exact⟨n,r,u,p,hs,a,q,j⟩
def iCF{α β γ δ ε:Type}{P:17e7}{Q R:α->β->γ->δ->ε->Prop}(a:α)(b:β)(c:γ)(d:δ)(e:ε)(p:P a b)(q:Q a b c d e)(r:R a b c d e):∃a b,P a b/\∃c d e,Q a b c d e/\R a b c d e:=⟨a,b,p,c,d,e,q,r⟩
def ao2{c:ClaimW}{tree:2e5->b5 kB}{w:eB}{s:ae}{eH:154 aI}{dD:Prop}{im:154 ai}(hz:s.Jz)(C:s.dD= #[])
  (ao3:∀p,c.pre p=true->wu.XL p=true->∀sN:26e2->26e2,(∀l,(sN l).qx l)->
   ∃vs a,layAllW c.XM (zt s.M) w.bV sN p s=G (vs,a)/\
    aM (bh c.bc w) mR (tree vs) (λeg s'=>∃f,eg= .kz f/\(c.Ends s p vs a (.Y f) s'/\s'.os=s.os/\AllBare s'.dD/\im s'.M))
     (λe s'=>c.Ends s p vs a (.dJ e) s'/\s'.os=s.os/\AllBare s'.dD/\im s'.M) a):
  c.CallFrom (λvs=>⟨tree vs,.bJ "claim.caller" {},nu,[]⟩) w eH dD im s:=by
 intro p apx E sN A;show Internal.XU λapF apw=>gd (ao3 p apx E sN A) λvs a P apr=>?_;have apA:=ao4 _ _ _ P;obtain(⟨k,r,s',apy,apq,V,apz,u,B,apE⟩):=ao1 (bc:=c.bc) (w:=w) (t:=tree vs) (s:=a)
  (R:=λr s'=>c.Ends s p vs a r s'/\s'.os=s.os/\im s'.M) (ae.Pn apA.2.2.2 hz)
  (eX apr ((by rintro eg s' ⟨f,e,h1,h2,h3,q⟩;exact⟨f,e,⟨h1,h2,q⟩,ao5 h3⟩)) (by rintro e s' ⟨h1,h2,h3,q⟩;exact⟨⟨h1,h2,q⟩,ao5 h3⟩))
 show zu (ae.forget_eq apz) λW m m apD m=>?_;have u:=u.congr W;have apu:s'.M.sX=s.M.sX:=(runN_life _ _ _ V).aV apA.2.2.2;clear V;show apw (iCF vs a k _ s' P apq ⟨?_,λm i x S=>by rw[C]at S;simp at S,W▸apE,by rw[apu],ae.rest_eq (apD▸B)⟩);clear apq;exact u.ak (λh=>oE h λv h=>zv h λz d1 g d n j=> .a4 ⟨v,bC On z,d1,g,d,λb o app m=>n b o app,j⟩)
  λh=>sQ h λe ob bj z d1 g d n j=> .aE ⟨e,ob,bj,bC On z,d1,g,d,n,λb o app m=>j b o app⟩
def holds_R(said:rD.zw=true)(aX:∀(w:eB) (s₀ a:ae),hb a.M 40e0->kD.n1<=a.M.O.an->∀(b:D wu) (vs:2e5) (as:11e9),
   jJ.re.pre b=true->wu.XL b=true->Laid [] w s₀ a b vs as->
    aM (bh pw w) mR (PySem.aX (.N 1467) vs) (λv s'=>Op jJ.re (zt s₀.M) 54e4 b a (.Y (.bk v)) s')
     (λe s'=>Op jJ.re (zt s₀.M) 54e4 b a (.dJ e) s') a):rD.Holds:=by
 have k1:rD.bx.zw=true:=by
  unfold Oy.zw at said;simp only[al.lg]at said;repeat (first|exact said|replace said:=said.1)
 have app:jJ.promised:=⟨[.az []],av,av⟩;have apx:jJ.bc.kd:=⟨H,H,H,H,H,av⟩;have Y:(opensWell jJ.bc&&(frees jJ&&jJ.within.jN))=true:=av;show oA (al.nM.mp Y) λo1 k5=>?_;show oA (al.nM.mp k5) λk5 W=>?_;show zu (frees_parts k5) λd E apw apr hm=>?_;show⟨said,k1,app,⟨apx,o1,cI⟩,app.witness,λw=>⟨(Pm w).1,λs' apE=>?_⟩⟩;(show gF ((Pm w).2 s' apE) λs₀ apB apz s j=>?_;show zu j λapy hz t u Q=>?_;try clear j);have apu:hb s.M (KL w.bV):=λp r=>u p (As _ p r);have hg:=ph apu;show⟨s₀,apB,apz,s,apy,λn V=>?_,λx m=>(nomatch m),λx m=>(nomatch m),?_⟩
 ·have:n=51e7 :=by
   have h1:n∈ [51e7]:=V;simpa using h1
  subst bb;exact abx apu
 ·show ao2 (c:=jJ.re) hz t λb S apq sN i=>?_;(show oE (ar.mV.mp (layAllW_isSome (R:=[]) (cl:=zt s.M) (gK:=λc C=>nomatch C) (P:=w.bV) (sN:=sN) b jJ.pn s (pre_splitW S).1)) λapF k=>?_;obtain⟨vs,a⟩:=apF);have eI:=layAllW_keeps _ _ _ k;have o:=ao4 _ _ _ k;show dU (reads_layAllW i _ _ _ k apq a.M (λA A e=>e)) λas apA apC apD=>?_;have apt:Laid [] w s a b vs as:=⟨⟨sN,i,k⟩,apA,apC,apD,eI,o.1.aV t,o.2.2.1⟩;have aps:kD.n1<=a.M.O.an:=by
   have h1:=u (1467,uO w.bV) (by
    have:((40e0).nw (353 1467))=G (1467,uO w.bV):=av
    exact D.uQ bb)
   have:=ai.cQ (eI _ _ h1);have e:kD.n1=1468:=av;rw[e];exact bb
  have h:=aX w s a (λp r=>eI _ _ (u p r)) aps b vs as S apq apt;have l:=ident_freeW E apw apr;have f:jJ.re.within=[]:=D.isEmpty_iff.mp W;have apv:a.M.jI iD 51e7=47 1467:=by
   unfold ai.jI;rw[k3 (P:=w.bV) λp r=>eI _ _ (apu p r)];kernel_rfl
  have B:a.M.Ns iD (a.M.jI iD):= .vD (ph (P:=w.bV) λp r=>eI _ _ (apu p r));show⟨vs,a,k,?_⟩;show 166 (ye (gf:=51e7) B ?_);rw[apv];show aZ (eX h (λv s' g=>bH ⟨_,H,?_⟩) λe s' g=>?_)
  ·have z:=g.laid (c:=jJ.re) d f l apt;exact⟨z.1,z.2.1,z.2.2,λq=>by cases q⟩
  ·have z:=g.laid (c:=jJ.re) d f l apt;exact⟨z.1,z.2.1,z.2.2,λq=>by cases q⟩
set_option backward.match.sparseCases false
def wv{a b:V}{os:1e0}{T:0e1}{o:2e1}(s:eO 12 os a=G d)(h:eO 12 os b=G d)(x:d.jw=true):qq .gL a b os T o false:=by
 show⟨qB 12 os a||qB 12 os b,?_⟩
 ·refine xx (pD os a b)=_;unfold pD;rw[s,h];refine G (!(cm.eqv d d),_)=_;rw[eqv_refl d x];rfl
def ao6{a b:V}{os:1e0}{T:0e1}{o:2e1}(s:eO 12 os a=G d)(h:eO 12 os b=G d)(x:d.jw=true):qq .Eq a b os T o true:=by
 show⟨qB 12 os a||qB 12 os b,?_⟩
 ·refine vEq os a b=_;unfold vEq pD;rw[s,h];refine G (cm.eqv d d,_)=_;rw[eqv_refl d x]
def XN{n:I}{os:1e0}{v:V}(h:KV .x v):∃d,eO (n+1) os v=G d/\d.jw=true:=by
 rcases h with H|⟨i,t,H⟩
 ·exact⟨.L,H,H⟩
 ·exact⟨.y i,H,H⟩
def mS{f:V->ar cm}(h:f v=G d)(g:ia f l=G ds):ia f (v::l)=G (d::ds):=by
 refine((f v).cr λd=>(ia f l).aj (d:: ·))=_;rw[h,g];rfl
def on{f:D cm->cm}(h:o=G ds):o.aj f=G (f ds):=by rw[h];rfl
def Ot{n i:I}{os:1e0}{l:0e0}{ds:D cm}(h:os[i]? =0e4)(hs:o.sq=G l)(g:111 n os l=G ds):eO (n+1) os 15e9=G (.az ds):=by
 refine((os[i]?.cr aps.sq).cr λl=>(111 n os l).aj cm.az)=G (cm.az ds);rw[h];refine((aps.sq o).cr _)=_;rw[hs];exact on g
def ww{n:I}{os:1e0}{l:0e0}:eL q l->∃ds,111 (n+1) os l=G ds/\cm.qN ds=true:=by
 induction l with
 |aR=>exact λx=>⟨[],H,H⟩
 |aQ v l ih=>
  intro h;show aN (XN (n:=n) (os:=os) (h v (D.dQ ..)).x) λd e1 e2=>?_;show aN (ih λw s=>h w (54 s)) λds g1 g2=>?_;exact⟨d::ds,mS e1 g1,by rw[cm.qN,e2,g2];rfl⟩
def ao7{n:I}{os:1e0}{ns:33e1}:(∀p∈ns,KV .x p.2)->∃ds,111 (n+3) os (ns.aj uy)=G ds/\111 (n+3) os (ns.aj uz)=G ds/\cm.qN ds=true:=by
 induction ns with
 |aR=>exact λx=>⟨[],H,H,H⟩
 |aQ p ns ih=>
  intro h;show aN (XN (n:=n) (os:=os) (h p (D.dQ ..))) λd e1 e2=>?_;show dU (ih λw s=>h w (54 s)) λds g1 g2 g3=>?_;have f1:∀t,eO (n+3) os (.X [0 p.1,.ad [p.2] t])=G (.qA [.y p.1,.az [d]]):=λt=>on (f:=cm.qA) (mS (f:=eO (n+2) os) (d:= .y p.1) H (mS (on (f:=cm.az) (mS e1 H)) H));exact⟨.qA [.y p.1,.az [d]]::ds,mS (f1 _) g1,mS (f1 _) g2,by simp only[cm.qN,cm.jw,e2,g3,al.tf]⟩
section
variable{b:MB}{a:aI}{en:V}{cB:D V}{k:I}{ns:D (K×V)}
def ao8(apx:20e7){T:0e1}{o:2e1}:qq .gL 21e0 (.Z 10) 6e8 T o false:=by
 show dU (ao7 (n:=8) (os:=6e8) apx.ns.1) λds g1 g2 g3=>?_;rw[<-apx.no]at g1;rw[<-apx.nl]at g2;exact wv (d:= .az ds) (show(111 11 6e8 b.no).aj cm.az=_ from on g1) (show(111 11 6e8 b.nl).aj cm.az=_ from on g2) (by rw[cm.jw];exact g3)
def c_T(apx:20e7){T:0e1}{o:2e1}:qq .gL 7e9 (8 [13e4,13e5,13e6]) (6e8++[16 [6 b.T0,6 b.T1,6 b.T2]]) T o false:=by
 generalize s:c9 b a en cB++[aps.az [V.ad b.T0 true,.ad b.T1 true,.ad b.T2 true] false]=os;show aN (392 9 apx.T0.1) λd0 e0 c0=>?_;show aN (392 9 apx.T1.1) λd1 e1 c1=>?_;show aN (392 9 apx.T2.1) λp e2 c2=>?_;have f:∀{l:0e0} {d:D cm} {t:al},111 10 os l=G d->eO 11 os (.ad l t)=G (.az d):=λh=>on h;have g:∀{i:I} {l:0e0} {d:D cm} {t:al},os[i]? =G (.az l t)->111 10 os l=G d->eO 11 os 15e9=G (.az d):=λx h=>Ot x H h;have h2:os[2]? =G (37 b.T0):=by rw[<-s];rfl
 have h3:os[3]? =G (37 b.T1):=by rw[<-s];rfl
 have r:os[4]? =G (37 b.T2):=by rw[<-s];rfl
 have e:os[51]? =G (16 [6 b.T0,6 b.T1,6 b.T2]):=by rw[<-s];rfl
 show wv (d:= .az [.az d0,.az d1,.az p]) ?_ ?_ ?_
 ·exact Ot e H (mS (f (t:=true) e0) (mS (f (t:=true) e1) (mS (f (t:=true) e2) H)))
 ·exact on (f:=cm.az) (mS (g h2 e0) (mS (g h3 e1) (mS (g r e2) H)))
 ·simp only[cm.jw,cm.qN,c0,c1,c2,al.tf]
def c_m{T:0e1}{o:2e1}:qq .gL (6 4e2) 10e1 6e8 T o false:=by
 have h:eL .x 4e2:=λv s=>by
  (show aN (D.sr.mp s) λx p r=>?_;subst r);clear s;exact 19e7
 show aN (ww (n:=10) (os:=6e8) h) λds e c=>?_;exact wv (d:= .az ds) (show(111 11 6e8 4e2).aj cm.az=_ from on e) (show(111 11 6e8 4e2).aj cm.az=_ from on e) (by rw[cm.jw];exact c)
def XO{v:V}(b:KV .x v){x app z:K}{T:0e1}{o:2e1}{l:1e0}(s:l.U=51):qq .gL 7e9 (8 [6e6,2 app,2 z,v]) (l++[16 [6e6,2 app,2 z,v]]) T o false:=by
 generalize h:l++[aps.az [V.y x true,.y app true,.y z true,v] false]=os;have s:os[51]? =G (16 [V.y x true,2 app,2 z,v]):=by
  rw[<-h,D.lD (by exact I.h8 s),s];rfl
 clear h;have a:eL .x [V.y x true,2 app,2 z,v]:=237 19e7 19e7 (237 19e7 b mN);show aN (392 10 a) λds e c=>?_;show wv (d:= .az ds) ?_ (on e) (by rw[cm.jw];exact c);exact Ot s H e
def XP{n m:I}{os:1e0}{v:V}(h:v= 0e6\/∃l,v= 6 l/\eL q l/\l.U=m):∃d,eO (n+2) os v=G d/\d.jw=true:=by
 rcases h with H|⟨l,H,s,_⟩
 ·exact⟨.L,H,H⟩
 ·show aN (392 n s) λds e c=>?_;exact⟨.az ds,on e,by rw[cm.jw];exact c⟩
def c_e(apx:20e7){T:0e1}{o:2e1}:qq .Eq (.Z 20) (.Z 7) 6e8 T o true:=by
 show aN (XP (n:=9) (os:=6e8) apx.e0) λd0 e0 c0=>?_;show aN (XP (n:=9) (os:=6e8) apx.e1) λd1 e1 c1=>?_;have h:(111 11 6e8 [b.e0,b.e1]).aj cm.az=G (.az [d0,d1]):=on (mS e0 (mS e1 H));exact ao6 (d:= .az [d0,d1]) h h (by simp only[cm.jw,cm.qN,c0,c1,al.tf])
def c_d(apx:20e7):qq .Eq (.Z 21) (.Z 9) 6e8 T o true:=by
 have h1:∀x l t,6e8[x]? =G (.az l t)->eO 12 6e8 (.Z x)=(111 11 6e8 l).aj cm.az:=λx l t h=>by
  refine((6e8[x]?.cr aps.sq).cr _)=_;rw[h];rfl
 have r:6e8[21]? =G (16 [b.d0,b.d1]):=H;have p:6e8[9]? =G (16 [b.d0,b.d1]):=H;have apt:Qo 6e8 (.Z 21) (.Z 9)=(eqB [b.d0,b.d1] [b.d0,b.d1]).aj λb=>(b,true):=H;refine∃t,vEq 6e8 (.Z 21) (.Z 9)=G (true,t);unfold vEq pD;rw[h1 _ _ _ r,h1 _ _ _ p,apt];rcases apx.d0 with e0|⟨e,e0,_⟩<;>rcases apx.d1 with e1|⟨s,e1,_⟩<;>rw[e0,e1]
 ·exact 25e1
 ·exact⟨true,bC (λq=>G (true&&(q&&true),true)) (eF (rfl:s=s))⟩
 ·exact⟨true,bC (λq=>G (q&&(true&&true),true)) (eF (rfl:e=e))⟩
 ·exact⟨true,(bC (λq=>G (q&&(275 s s&&true),true)) (eF (rfl:e=e))).aV (bC (λq=>G (true&&(q&&true),true)) (eF (rfl:s=s)))⟩
universe e
def XQ(hm:∀i f,fB 50 f->f9 f 30e0=30e0)(x:l7 b):ku 51 (wt b a):=λi f s=>XI (XH hm x λj h=>s j (I.yu h aq)) i
section
variable{S B B2:D V}{bO:al}{sm apr:K}
def ao9(h:b.m=(18e2).m):((j5 b a)++[aps.az [] false]).aj eJ=(119 (lw (wt b a) 18e2)).aj eJ:=by
 obtain(⟨m,s,fc,x,aO,T0,T1,T2,c0,c1,c2,e0,e1,d0,d1,no,nl,gw,pk,g⟩):=b;have h:m=(18e2).m:=h;subst h;rfl
def apa(h:b.m=(18e2).m)(hL:LC (lw (wt b a) 18e2) 0 [] (.Y (105 gp) 6e8 (b2 18e2))):123 40 (22 1455 [6e3,9e0,23e1]) (j5 b a) T gp 6e8 T:=
 iZ (aoY aw b a B apr gp T _ _) (39 (aot (ao9 h) (λk v e=>⟨v,e,H⟩) hL)) 17e5
def apb(h:O.aj eJ=om.aj eJ):gb 0 O om T T 39e6:=by
 have a:O.U=om.U:=by have:=bC D.U h;simpa using bb
 show⟨⟨λi o e=>?_,λi x=>by exact yr a x,λi j s s h=>h,λk v e=>⟨v,e,by rw[n8]⟩⟩,λs s=>rfl,31e7⟩;have e2:=bC (·[i]?) h;simp only[D.n4,e,ar.td]at e2;show aN (ar.hh.mp e2) λo2 g1 g2=>?_;exact⟨o2,g1,by rw[uv];exact g2⟩
def Ou(hL:oh (lw (wt b a) b))(p:∀f,41e0=en)(hs:21 cB cB)(m:∀k v,19e1=2e4->∀f,fB 50 f->15e3=v):gb 0 (6e8++[x]) 6e8 T T (gn 42e8 (6e8++[x]).U):=by
 have n:(6e8).U=51:=ux ..;have r:∀j,j<51->gn 42e8 (6e8++[x]).U j=j:=λj h=>by
  unfold gn;rw[D.uu h];rfl
 show gb.sF (fW:=42e8) ?_ D.WX (λk v e=>⟨v,e,by rw[m k v e _ λj h=>r j (I.yu h aq)]⟩) H;have hr:(6e8).aj (f9 (gn 42e8 (6e8++[x]).U))=6e8:=WW hL _ r (oi _ _) (p _) (hs _);rw[C3,hr];show D.V9 λi=>?_;rw[D.n4,D.n4];by_cases s:i<51
 ·rw[D.uu s];refine G (((6e8++[x])[i]?).aj eJ)=(6e8[i]?).aj (λo=>G (eJ o));rw[D.kR (by exact I.LP s),D.ie (by exact I.LP s)];rfl
 ·rw[D.q4 (by simp;exact I.C9 s),D.q4 (by exact I.C9 s)];rfl
def apc(apx:20e7)(u:zr gp)(t:l7 b)(hm:∀i f,fB 50 f->f9 f 30e0=30e0)(h:∀f,41e0=en)(hs:21 cB cB)(P:21 S S)(apq:21 B B)
  (apd:123 40 (22 1455 [6e3,9e0,23e1]) (j5 b a) (10e5++[(157,gp)]) gp 6e8 (10e5++[(157,gp)])):ii 40 [lS 5,lS 6,lS 7,lS 8,lS 9] 0 (87 (j5 b a) (157,gp) []) (20 45e5 [] [] [] []):=by
 have apw:=apx.T0.2;have V:=apx.T1.2;have W:=apx.T2.2;have hL:oh (lw (wt b a) b):=apx.oj (XQ hm t);have r:=zs (apr:=apr) P apq u.1;show aN (u.2 6e8) λdt t1 t2=>?_;have m:=hU 40 60 (.ss [lS 9]) (87 6e8 (157,gp) [34e0,34e0]);rw[aoX aw b a S B apr gp en cB]at m;have j:ii 40 [lS 9] 0 (87 6e8 (157,gp) []) (20 45e5 [] [] [] []):=
  me (aj4 (a:= 45e5) (fN:=[]) (gc:=[]) m (24 (c_e apx) (c_d apx)) (gb.sF (fW:=[]) H D.kS (λk v e=>19e2) H))
 have apA:ii 40 [lS 8,lS 9] 0 (87 6e8 (157,gp) []) (20 45e5 [] [] [] []):=by
  rcases apx.c2 with e|⟨n,e,_⟩
  ·have s:=203 8 (87 (66 44e7 cB) (157,gp) [8e9]);rw[aoV aw b a S B apr gp en cB]at s;have p:({b with c2:= .aa .L}:MB)=b:=by rw[<-e]
   have q:=XO (v:= 0e6) 2e6 (x:=b.c1) (app:=b.fc) (z:=b.c0) (T:=10e5++[(157,gp)]) (o:=[8e9]) (l:=66 44e7 cB) (ux ..);rw[p]at s q;exact me (mP s (39 q) (yZ (Ou hL h hs r) λbG=>me j))
  ·have s:=203 8 (87 (66 (338 n) cB) (157,gp) [8e9]);rw[aoW aw b a S B apr gp en cB n]at s;have p:({b with c2:= .y n false}:MB)=b:=by rw[<-e]
   have q:=XO (v:= 0 n) 19e7 (x:=b.c1) (app:=b.fc) (z:=b.c0) (T:=10e5++[(157,gp)]) (o:=[8e9]) (l:=66 (338 n) cB) (ux ..);rw[p]at s q;exact me (mP s (39 q) (yZ (Ou hL h hs r) λbG=>me j))
 have s8:=203 7 (87 6e8 (157,gp) [8e9,8e9]);rw[uS8 aw b a S B apr gp en cB]at s8;have g:=me (o2:=[]) (mP s8 (24 c_m ⟨true,av⟩) apA);have w:=203 6 (87 6e8 (157,gp) [8e9]);rw[uS7 aw b a S B apr gp en cB]at w;have R:=me (o2:=[]) (mP w (25 bN bN bN (c_T apx)) (yZ (Ou hL h hs r) λbG=>me g));have c:=203 5 (87 (j5 b a) (157,gp) [262 1455 gp 6e8,8e9,8e9,8e9]);rw[uS6 aw b a S B apr gp en cB]at c;exact me (mP c (25 apd (wv t1 t1 t2) (wv (d:= .y b.gw) H H H) (ao8 apx)) R)
universe e
def ape(l:D K)(f:I->I):bQ f (265 37e7)=265 37e7:=by
 rw[lH,D.rC];rfl
def law_ok:XK:=by
 intro hF w;have n:∀v∈(hF.aj λi=>V.y i true),∃i,v=37e7:=λv l=>by
  (show aN (D.sr.mp l) λi z e=>?_;subst e);exact⟨i,H⟩
 have s:=ape hF;show sQ (aor n (by rw[D.fs];exact w) s) λB B2 bO d j k h m u=>?_;show⟨false,?_⟩;rw[aoZ];show me (bS1 (apr:=0) (u _) aow (me (bS2 (apr:=0) ?_)));obtain⟨o,h3⟩:=bS3 (hF:=hF) (O:=u0 hF.lh B2 bO++u1 hF.lh B) (v1:= 9e0) (v2:= 6e3) (v3:= 21e0) (v4:= 21e7) (v5:= 27e6) (b:=[lS 3,lS 4,lS 5,lS 6,lS 7,lS 8,lS 9]) (bI:= 20 45e5 [] [] [] []) λapr p=>by
  show me (bS4 ?_);show yZ (apb (aoF hF.lh apr B B2 bO)) λbG=>?_;obtain⟨f,q⟩:=bS5 (sm:=hF.lh) (F:=[lS 5,lS 6,lS 7,lS 8,lS 9]) (bI:= 20 45e5 [] [] [] []) p d j k h m s λt en cB g app P a c x hm r hs apx e1 e2 e3 hL=>
   apc apx c x hm r hs s h (apa e1 (hL _ (XQ hm x)))
  exact me q
 exact me h3
set_option backward.match.sparseCases true
def aK.start{m apA:am->12e4}(R:hb s.M 40e0)(g:lx<=s.M.O.an)(W:s.dD= #[]) (hL:ab.cY=s.M.O.an) (xc:InCallC s ab.cY m ab.b3 apA s1)
  (hf:ab.ec=31e4) (hk:ab.bt.d9= .jL) (x:(ab.b3.aj (·.1)).dX)
  (jA:∀k v,19e1=2e4->∃u,RV [] s.M v u/\(33e4=12e3->m 5e5=G u)/\(33e4≠12e3->apA 5e5=G u))
  (app:∀n,(37e3=18e8\/37e3=23e5)->(378 n)=true):
  aK ⟨w,mR.hZ ab,ab,s.os,false⟩ [] ⟨[],T,[]⟩ s1:=by
 have t:=xc.oZ.bS;(show qh xc.oZ.fF λh1 tk apD=>?_;subst apD);have S:∀n c,(n,c)∈ab.b3->s.M.O.an<c:=λn c h=>hL▸xc.LH n c h;have no:∀a,¬69 []:=(by rintro a ⟨p,P,_⟩;exact nomatch P);have gD:∀l',(mR.hZ ab).dY=G l'->l'=[ab]:=λl' h=>by
  have:(mR.hZ ab).dY=G [ab]:=H;rw[bb]at h;exact(52e4).bi
 show⟨λp P=>t _ _ (R p (As _ p P)),H,λi o p e d=>19e2,D.kS,λa h=>(no a h).ak,λa h=>(no a h).ak,⟨(314 xc.oZ.ns),λk v a b=>?_⟩,λa d=>no a,λa j=>?_,⟨?_,x,λn x=>?_⟩,λd n c app=>?_,λl z e q=>?_,λa j=>⟨?_,no a⟩,W,H,?_⟩
 ·show dU (jA k v b) λu r e d=>?_;exact⟨u,e a,dP (je t) r⟩
 ·show dU (jA k v b) λu r d e=>?_;show oE (ar.mV.mp (app _ a)) λc apq=>?_;have apw:33e4≠12e3:=by
   have f:33e4=18e8\/33e4=23e5:=a;rcases f with f|f<;>rw[f]<;>decide
  exact⟨c,u,apq,(e apw)▸xc.dm _ c apq,dP (je t) r,no c⟩
 ·rcases j with H|⟨_,n,x⟩
  ·exact hL▸g
  ·exact 351 g (S n a x)
 ·have:=xc.apart;rw[D.dX,D.afk];exact bb
 ·have h1:=S n _ x;have h2:ab.cY=s.M.O.an:=hL;rw[h2]at h1;exact 293 h1
 ·exact⟨_,xc.dm n c (SO x app)⟩
 ·rw[gD l z]at q;cases D.cZ.mp q;show uE xc.oZ.ns λo es ep e1 e2 d=>?_;exact⟨hk,_,o,hf,e1,es,ep,e2⟩
 ·obtain(⟨l,z,e,q,j⟩):=j;have V:l=[ab]:=gD l z;rw[V]at q;cases D.cZ.mp q;clear q;rw[hf]at j;cases j;exact hL▸g
 ·show⟨#[],t _ _ (R (1391,pf w.bV) ?_),2e6⟩;have:((40e0).nw (353 1391))=G (1391,pf w.bV):=av;exact D.uQ bb
def XR:lk ft 1467=G qz:=av
def items_int{R:XS}{xs:D wu}:WShape.hasItems R xs .y=true->∃is:D K,xs=is.aj .y:=by
 induction xs with
 |aR=>exact λa=>⟨[],H⟩
 |aQ x xs e=>
  intro h;unfold WShape.hasItems at h;show oA (al.nM.mp h) λh1 h2=>?_;(show oE (hasW_int h1) λi s=>?_;subst s);(show oE (e h2) λis s=>?_;subst s);exact⟨i::is,H⟩
def apf{R:XS}{cl:am->ar aI}{h:ai}{is:D K}:∀{vs:2e5} {as:11e9},ReadsAllW R cl h vs (is.aj .y) as->cx [] h (is.aj 47e9) vs:=by
 induction is with
 |aR=>intro vs as r;rw[(apg r).1];exact .aR
 |aQ i is e=>
  intro vs as r;(show qi (aph r) λv vs m k b x a s=>?_;subst b);clear r;(show aN (readsW_int_inv a) λt p x=>?_;subst p);clear a;exact .aQ (.y ..) (e s)
def api{R:XS}{cl:am->ar aI}{h:ai}{is:D K}{vs:2e5}{as:11e9}(k:is.U<=63)(r:ReadsAllW R cl h vs [.az (is.aj .y)] as):∃u,vs=[u]/\RV [] h (6 (is.aj 47e9)) u:=by
 (show qi (aph r) λu vs q v b a r1 r2=>?_;subst b);clear r;rw[(apg r2).1];(show np (readsW_list_open r1) λl o w s=>?_;show uF s λn j e e1 e2 e3 x=>?_;try clear s;subst e;show oA x λe4 a=>?_;try clear x);clear r1;exact⟨_,H,.ad _ _ _ _ ⟨_,e1,e2,_,e3⟩ ((by rintro⟨p,m,_⟩;exact nomatch m)) (368 (I.dV k aq)) (apf e4)⟩
def call_law(apj:XK)(w:eB)(s₀ s:ae)(apu:hb s.M 40e0)(Q:kD.n1<=s.M.O.an)(z:D wu)(vs:2e5)(as:11e9)
  (XT:jJ.re.pre z=true) (MO:wu.XL z=true) (apt:Laid [] w s₀ s z vs as):
  aM (bh pw w) mR (PySem.aX (.N 1467) vs) (λv s'=>Op jJ.re (zt s₀.M) 54e4 z s (.Y (.bk v)) s')
     (λe s'=>Op jJ.re (zt s₀.M) 54e4 z s (.dJ e) s') s:=by
 clear MO;show oA (pre_splitW XT) λp1 apE=>?_;clear XT;(show jB (hasAllW_cons (e:= .az .y) (es:=[]) p1) λd r yP h1 h2=>?_;subst yP);clear p1;cases hasAllW_nil h2;(show aN (hasW_list h1) λxs g h3=>?_;subst g);(show oE (items_int h3) λhF g=>?_;subst g);have E:hF.U<=63:=by
  have e:∀l:D wu,jJ.pre.holds jJ.XM {pn:=[.az l]}=WTm.holds jJ.XM (.and (.pz (.lit (.bp (decide ((63:K)<(l.U:K)))))) (.lit 22e6)) {pn:=[.az l]}:=λl=>av;rw[e,D.fs]at apE;show I.C9 λq=>?_;rw[eF (show(63:K)<(hF.U:K) by lia)]at apE;exact bL (show false=true from apE) al.lM
 show oE (apj hF E) λtt apk=>?_;(show aN (api E apt.reads) λu g ru=>?_;subst g);show jB (CS w.bV XR) λfd B apC hB apv=>?_;have R:hb s.M (KL w.bV):=λp j=>apu p (As _ p j);show aN (apv.Z w.bV) λo hm hd=>?_;have rs:cx [] s.M [V.ad (hF.aj 47e9) true] [u]:= 266 ru;show aN (apv.cr s w.bV R [] _ [u] rs H) λB4 r' apl=>?_;have ys:lx<=s.M.O.an:=by
  have e:kD.n1=lx:=av;rw[<-e];exact Q
 have hps:∀app∈(qz.ps.aj nm).fx B4,app.1∈qz.ps.aj nm:=λapp W=>(D.of_mem_zip W).1;show rh (OD (cX:=B) aq (R _ hm) hd apv.co apv.gen apv.cX (apv.dI _ _ R) (apl _ _ _ _ ?_));rw[apv.SK];show afx apv.d9 (λapp W=>?_) λab x s1 xc=>?_
 ·show aN (D.sr.mp (hps app W)) λp j e=>?_;rw[<-e];rcases apv.pk p j with h|h
  ·exact 25e7
  ·exact .aE ⟨h,vN 25e7⟩
 have hL:ab.cY=s.M.O.an:=bC (·.cY) x;have A:ab.ec=31e4:=(bC (·.ec) x).aV (bC (G ·.cY) x).bi;have P:ab.bt=fd.bt:=bC (·.bt) x;have apD:ab.b3=t7 (181 1) fd.bt.bq []:=bC (·.b3) x;have hgl:ab.ha=iD:=(bC (·.ha) x).aV apv.vA;have hbl:ab.jE=mW:=(bC (·.jE) x).aV apv.jP;have gK:∀n c,(n,c)∈ab.b3->ab.cY<c:=λn c h=>xc.LH n c h;have S:=xc.oZ.bS;have apq:∀n,37e3=fd.bt.bq.bY n:=λn=>by unfold eA.dB;rw[P]
 have C:∀n,37e3≠23e5:=λn h=>by
  rw[apq]at h;exact apv.SM _ (nf h) H
 show⟨LG (λp j=>S _ _ (R p j)),OB ?_⟩;have aps:=aK.start (w:=w) (T:=qz.ps.fx [352 47e9]) apu ys apt.dD hL xc A (by rw[P];exact apv.d9) (by rw[apD];exact SJ apv.bq D.kS λm m h=>nomatch h)
  (λk v e=>SI _ _ apv.SN r' k v e) (λn h=>by
   rcases h with h|h
   ·rw[apD];rw[apq]at h;exact vN 25e7
   ·exact bL h (C n))
 have yQ:(53e2).Ok 40:=by
  show⟨by refine ab.bt.d9=_;rw[P];exact apv.d9,hgl,hbl,λn h=>?_,by refine mR.g9+1+_+_<_;decide,by refine mR.jd+3+_+_<_;decide,H,H,⟨[ab],H,λm=>⟨[],H,A⟩⟩,λq=>nF q⟩;rcases h with h|h
  ·refine(378 n)=true;have h':37e3=18e8:=h;rw[apD];rw[apq]at h';exact vN (.a4 h')
  ·exact bL h (C n)
 have apm:qG qz.cX=L:=av;have hch:=VW w.bV XR apm apC hB;have R2:aK 53e2 ([]++[]) ⟨[],[(93,352 47e9)],[]⟩ s1:=aps;show eX (apk 60 fd.bt B hch ⟨w,mR.hZ ab,ab,s.os,false⟩ [] [] s1.M s1 (λfl s'=>fl= .bk 22e6/\qK s'.M/\(∃aC,56 [] ⟨w,mR.hZ ab,ab,s.os,false⟩ s1.M s'.M)/\s'.os=s.os/\s'.dD= #[]) (λm m=>fT) yQ P H pW.never H R2 (Kp.b8 ..) ?_) ?_ (λm m q=>q.ak)
 ·intro aC s' u apA t r3;cases r3 with
  |bk r3=>
   cases r3;exact⟨H,apA.cW,⟨aC,t⟩,apA.os,apA.dD⟩
 ·rintro fl s' ⟨H,apy,⟨aC,t⟩,Lu,apn⟩;have apo:∀a,a<s.M.O.an->¬fr 53e2 a:=by
   rintro a f (rfl|⟨_,n,apB⟩)
   ·exact 31 f 38e9
   ·have h1:=gK n a apB;exact 31 f (351 38e9 h1)
  clear h1;have notFA:∀a,a<s.M.O.an->¬FA 53e2 a:=by
   rintro a f ⟨l,hl,e,x,apF⟩;have hl2:l=[ab]:=(ar.G.cF hl).bi;rw[hl2]at x;cases D.cZ.mp x;rw[A]at apF;cases apF;exact 31 f 38e9
  show⟨.a4 ⟨22e6,22e6,[],H,λbj=>av,22e6,?_,λm=>⟨D.kS,λa f=>nomatch f⟩⟩,⟨λb o e=>?_,λb o e=>t.g7 b o (S b o e)⟩,Lu,.of_eq apn⟩
  ·exact al.nM.bn (238 av)
  ·have apx:=9e1;cases apz:ix o with
   |false=>exact .a4 (t.bS b o (S b o e) apz (notFA b apx) (apo b apx) (by rintro⟨p,j,_⟩;exact nomatch j))
   |true=>
    by_cases apr:b=lY
    ·subst apr;have g1:s.M.ao 1391=G (pf w.bV):=by
      show apu (1391,pf w.bV) ?_;have:((40e0).nw (353 1391))=G (1391,pf w.bV):=av;exact D.uQ bb
     have g2:s.M.ao 1395=G (ta w.bV):=by
      show apu (1395,ta w.bV) ?_;have:((40e0).nw (353 1395))=G (1395,ta w.bV):=av;exact D.uQ bb
     have ho:o=pf w.bV:=ar.G.cF (e.bi.aV g1);subst ho;(show aN apy λps hps' m=>?_;try clear apy);show .aE (.a4 ⟨⟨1395,_,_,g2,H,H,H⟩,H,#[],ps,H,?_⟩);rw[hps'];simp[apw.Rm,pf]
    ·exact .a4 (t.iW b o (S b o e) apz apr)
universe e
end
end Internal
end
theorem PySem.Challenge.cw_nm0174_01_holds : PySem.Challenge.rw_nm0174_01.Holds :=
  Internal.holds_R Internal.said (Internal.call_law Internal.law_ok)
