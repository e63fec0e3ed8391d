import PyProof.Rows.All
import PyProof.FactsAll.list_3
import PyProof.FactsAll.dict_3
import PyProof.FactsAll.dict_4
import PyProof.CodeObjX
import PyProof.CompFree
import PyProof.Conv_int_bool
import PyProof.Draws
import PyProof.EnumMake
import PyProof.P3Eq
import PyProof.ExcBaseAll.Exception
import PyProof.ExcAttrAll.Exception
import PyProof.RangeFor
import PyProof.InstStoreFacts
import PyProof.Rows.SeqRoads
import PyProof.WalkInts
import PyProof.ZipIter
import PyProof.TupleOfSeq
import KE.BitLaws
import KE.BytesMake
import KE.KItem
import KE.KBytesWalk
import KE.KDictSum
import Wide.FinOn
import OpenK.AllK
import Wide.All
import Lean
import PySem.Challenge.RW_nm0174_01
set_option Elab.async false
set_option maxRecDepth 100000
set_option maxHeartbeats 4000000
set_option linter.all false
set_option genSizeOf false
set_option genInjectivity false
set_option tactic.hygienic false
section
set_option compiler.extract_closed false
namespace Internal
def qqqM : String := "0P48131H121312221512[0[0[0[0[0[0[0[0[0[0[0[0[0[0[0[0>O1226111P2[0Z1V[0[0[0[0[0[0[0[0U13<111211119<355T1111111111111111111111111111111111111111111111111111111111111111111111111111111111111121133Q4461434;1=2616272<31581[0[0B2211251114173@112721372H141:14111311231:121223291@112C1421111@1113231=1226171615381214282[06153:1>1@331447Q;1L525>171B2?1C1:19141:1226152S11112422151[0U12131B25511[0K4221181916131123122>121T1[0<1D1<1F4[051?2T231@13244<5254321:17281Q"
def qqqT : Std.HashMap String String := ("y int;D List;F st;G some;H rfl;I Nat;J lay;K Int;L none;M heap;N ref;O objs;T loc;U length;X tup;Y ok;Z obj;aa raw;ab env;ac za0;ad lst;ae Shared;af Value;ag str;ah fmod;ai Heap;aj map;ak elim;al Bool;am Str;an size;ao get?;aq byDE;ar Option;au stk;av byKR;ay Params;az list;aA Obj;aB type;aC more;aD rest;aE inr;aG up1;aI Addr;aJ toNat;aK Rel;aL fdiv;aO mem;aP items;aQ cons;aR nil;aU pos;aV trans;aW Lay;aX call;aY wpAny;a0 Expr;a1 toks;a2 sub;a4 inl;a7 bin;a8 exc;bb this;bc prog;bd za1;be UInt8;bf data;bg wpAny_bind;bh model;bi symm;bj cls;bk ret;bn mpr;bo Mod;bp bool;bq names;br rep;bt scope;bv inst;bw dict;bx row;bz asg;bA next;bC congrArg;bD iff;bI out;bJ builtin;bK decide;bL kvs;bM absurd;bN byLI;bO ft2;bP Array;bS keep;bU cmp;bV params;bX wpAny_pure;bY beq;bZ lookup;b1 za2;b2 za3;b3 cells;b5 Sem;b6 push;b7 stk';b8 refl;b9 pure;ca obs;ce FloorDiv;cf ctorIdx;cg ofNat;ch za4;ci add;ck PyData;cm Stmt;cn kernel;cp fields;cr bind;cy Own;cz le_of_ble_eq_true;cA za5;cB za6;cC cond;cD Scope;cE casesOn;cF inj;cH seq;cI byRF;cN set;cO stk0;cP acc;cQ lt_size;cR key;cU len;cV local;cW host;cX body;cY locals;cZ mem_singleton;c5 za7;c6 za8;c7 za9;c8 Good;c9 za10;dg Around;dj run;dm cell;dr Name;du st2;dv not_lt;dw Add;dA Pos;dB kindOf;dC lay0;dD gens;dH code;dI error;dJ all;dL Bytes;dM get;dQ mem_cons_self;dR Frag;dS range;dT Nodup;dU adr;dW le_trans;dX tabS;dY frames;dZ append_nil;d2 trivial;d3 own;d5 rows;d6 if_neg;d8 facts;d9 kind;ec frame;ed con;eg fin;ej one;em za11;eo get?_push_of_some;er reverse;et hit;ey Unit;ez Env;eA World;eB eval;eC le_refl;eE decide_eq_true;eG free;eH keeps;eJ All;eL za12;eM update;eN toD;eO append_assoc;eQ flat;eR mem_cons;eS here;eV objsC;eX if_pos;eY attr;e6 Looks;e8 handled;e9 far;fe za13;ff ite;fg in1;fh drop;fj Out;fk fresh;fo of_decide_eq_true;fq length_map;fs iota;fu injEq;fv put;fw zip;fy SameBut;fA fix;fE same;fF get?_push_size;fG take;fL objs3;fN any;fQ Code;fR False;fS String;fV sel;fX decide_eq_false;fZ eq_of_beq_eq_true;f0 sizeLine_eq;f3 toList;f4 Mult;f5 imp;f8 Keeps;gc loc3;ge getD;gf name;gi replicate;gj loop;gn told;gq holding;gr boot_o_4;gt wpAny_of_eq;gv steps;gy low;gF toArray;gG map_inj_left;gH mem_cons_of_mem;gJ hcl;gK NotEq;gL enum;gM getElem?_eq_some_iff;gR Program;gT za14;gV ListComp;gW IsList;gY knd;gZ neg;g4 ble;g5 alive;g6 den;g7 depth;g8 globals;ha map_eq_some_iff;hb za15;hh za16;hj za17;hw NameKind;hy script;hD under;hF wpAny_field;hG succ;hH za18;hI dictOf;hM length_append;hN other;hP locC;hR sound;hU contains;hV wpAny_mono;hW deeper;hY old;hZ le_of_eq;ib all_eq_true;ic getElem?_eq_getElem;ii za19;ik stack;il kept;im boot_o_0;io za20;ip ne_of_lt;iq isSome;iz Model;iB mainGlobals;iC rawInt;iD comp;iF line;iG isList;iH findIn;iI Sat;iK Flow;iL src;iM size_push;iN locs;iO DictEntry;iP wpAny_specialOf;iQ bytes;iR target;iT foldl;iV tab;iX andThen;i3 And;i4 zero;i6 bor;i7 bitAnd;i9 Const;ja mem_of_getElem?;jb units;jd nodup_cons;jj sub_self;jk IsTup;jl CmpOp;jm Sub;jn new;jo max;jp za21;ju canLay0;jv eq_of_beq;jw ext';jx le_of_lt;jB FuncData;jC builtins;jE at_;jF Thread;jG nsMap;jI init;jJ function;jK cenv;jL isEmpty;jN blt;jQ codes;jR Call;jT choose_spec;jU compareOp;jV not_le;jX starEach;jY top;j1 two;j4 notedBy;j5 guards;j6 live;j7 ifs;j8 PlainList;ka mk';kb bare;kh Tuple;kj stays;ku True;kw standAt;kx done;ky Fin;kz get?_update_self;kC Prod;kD typeLookup_type;kF builtinLookup_eq_fast;kG argsOk;kH TypeIs;kK Pow;kL clipAt;kM Attribute;kO getElem?_append_left;kP nodup_nil;kS backTo;kU layC;kV three;k7 bind_eq_some_iff;k8 owner;k9 isSubtype_type;la IsPart;lb and_eq_true;lc sum;lf za22;lg band;lj LtE;ll truthy;ln za23;lv za24;lx length_reverse;ly globalImplicit;lA getElem?_append_right;lB lookup_cons;lI mem_append;lJ table;lK false_ne_true;lL isSubtype;lM iter;lN lt_irrefl;lV app;lX dictOf_iff;md Result;mg again;mh execs;mi func;mj tail;mm za25;mn not_mem_nil;mo or_false;mq extBut;mt each;mB and_eq_true_iff;mD objE;mF lt_of_lt_of_le;mH loc';mJ cons_ne_nil;mP callerA;mR noteFrame;mS stmts;mT isSome_iff_exists;mU builtinsNs;mV entryFor;mW decide_eq_true_eq;mX typeIs;m0 unit;m4 rowAt;m5 eName;m6 length_cons;m9 upd;na za26;nb spliced;nc mem_of_lookup;nh emod_nonneg;nn za27;np Fast;nq intro;nt default;nv find?;nw wpAny_call_entry;ny wpAny_rule;nA wpAny_holding;nB slots;nC zero_le;nD DictAt;nI keyOk;nM za28;nR natCast_nonneg;nU emptyDict;nV instObj;nX map_cons;nY getElem?_map;n7 objsA;n8 locA;n9 emod_lt_of_pos;oj za29;ok objs';ol za30;on drawn;oo step;oq filter;ov isNs;ow Slot;ox mem_map_of_mem;oy wpAny_isInstance;oz pyNext;oC self;oD intKind;oG not;oJ IsNot;oK GtE;oM Src;oN cat;oS val;oX extract;oY toInCall;oZ now;o3 za31;o5 Apart;o6 za32;o8 za33;o9 loc1;pc qualname;pd rec;pe rule;ph ofString;pj getItem;pm args;pn typeLookup;po typeIs_bytes;pq SmallTypes;pr wpAny_standAt;pt elt;pv qual;px mapSeq;py LShift;pA za34;pC head?;pF store;pH stI;pM BoolOp;pN Return;pO Assign;pP IsCell;pT slice;pU PassesOwn;pW setIfInBounds;pX typeOf;pY isStr;p7 fst;p8 any_eq_true;p9 SrcAt;qc all2;qi onRaise;qk le_succ;qr bytearray;qs wpAny_newObj_type;qt mro;qu pyIter;qv compLoop;qw Perm;qx toNat_le;qz tuple;qH Subscript;qJ beq_refl;qL IsDictOf;qM after;qN canLayAll0;qO DecidableEq;qP DictOf;qQ length_take;qR wpAny_Name;qS evalEach;qV propext;qW of_pure;qZ notStar;q0 ExceptHandler;q1 za35;q2 za36;q4 getElem?_eq_none;rc za37;re claim;rg Decidable;rj leaving;rk closure;rm wpAny_load;ro field;rp head;rq Ref;rr denote;rt main;ry keyHash;rA mem_filter;rB map_map;rD cStatics;rE IsSliceOf;rF assign;rG relabel;rH lt_succ_self;rI Operator;rL strOk;rN negSucc;rY UnaryOp;rZ Constant;r0 Slice;r6 za38;r9 toV;sb atK;sd beq_eq_false_iff_ne;sf length_drop;si blt_eq;sk length_nil;sn za39;so za40;sp setFlight;sr mem_map;st za41;su isInstance;sv apos;sw za42;sx setItem;sA map_append;sB za43;sC use;sK za44;sM ord;sR enter;sS quiet;sT callAny;sU isTrue;sW life;s3 tk0;s4 za45;tc map_some;td all_cons;te and_true;tf signature?_of;th wpAny_typeOf;ti plain;tl wpAny_attempt;tm toNat_natCast;tp nextOf;tq IntsAre;tr sysModules;tu Pairwise;tv IsZip;ty za46;tz natAbs;tM strKind;tN flatMap;tR or_eq_true_iff;tS le_add_right;tU hash;tV get?_none_of_le;t5 za47;t6 za48;t7 cellsFrom;t8 mapFields;t9 get?_update_ne;uc clsIn;ud machine;ui za49;ul Range;um toNat_of_nonneg;un za50;uq excClassObj;ut getElem?_range;uA beq_false_of_ne;uF below;uH yield;uI Pass;uL topFrame;uO mem_append_right;uP mem_of_find?_eq_some;uQ nsKeys;uR nil_append;uS entryFor_of_tree;uT rawPart;uV write;uW Data;uX codeAny;uY wants;uZ slot_next;u3 wpAny_setField;u6 ExtBut;u7 IsEnum;u8 foldedSetIterable;u9 first;va listExtendWith;vb ne_of_gt;vg part;vu IfExp;vv Compare;vy glob;vz cellK;vB of_isNs;vG push_size;vH wpAny_release;vI noStar;vK value;vL cellsFrom_some;vM length_set;vO beq_self_eq_true;vT assignEach;vW adopt;v0 za51;v6 za52;wf shift;wk lt_of_not_ge;wl za53;wn za54;wq WData;wv decodersThatHold;ww za55;wy mark_none;wz point;wC if_true;wD motive;wE za56;wP za57;wS za58;wT za59;wZ treeTable;w0 mem_append_left;w3 payload;w4 exported;w6 checkBuiltinCall;w7 not_eq_true';w8 wpAny_callSpecial?_slot;w9 compStart;xa ForInStep;xb ItemsOf;xd IsTupIter;xk BitAnd;xm RShift;xo flatten;xt isIn;xz za60;xB isExc;xJ congrFun;xL za61;xV expr;x4 lt_of_le_of_lt;x5 KeyKind;x6 dict_int;x7 za62;x8 tupI;yb loadName;yc wpAny_nsGet;yf pairwise_flatMap;yg bind_some;yh operate;yl markedEach;ym ExactDict;yo le_of_eq_of_le;yp typeIn;yq lt_trans;yr hasDict;ys refKey;yt putName;yx arm_execs_cons;yy stored;yz map_congr_left;yA add_nil;yD apart_new;yN pairsOf;y4 bitAnd_m8;y5 funext;zn za63;zp classAt;zs wellSaid;zu wp_mono;zx theTreesLotGoes;zy cameBackBy;zA runOwn;zB isCoroutine;zC isGenerator;zD CodeRec;zE newFunctionEnv;zG cont;zH false_eq_true;zI if_false;zJ wpAny_execs_nil;zK load;zL Setting;zM stepOk;zO defaults;zQ behindTheImports;z1 za64;z3 za65;z4 za66;As za67;At za68;Av picked;Aw plainId_quiet;Ax callSpecial?;Ay mroOf;Az typeIs_int;AA not_lt_of_ge;AB beq_iff_eq;AC letOwnedTupleGo;AD closureFor;AE mem_reverse;AF listLengthHint;AG wpAny_ite_split;AH wpAny_updateSeq;AI get?_update_other;AJ wpAny_seqItems;AK wpAny_pyIter_list;AM forIn_cons;AS NotIn;AT za69;A3 callC;Bg BinOp;Bi Dict;Bm While;Bn Raise;Bo reverse_cons;Bt Lambda;Bz binaryOp;BB ToInt;BC zero_le_ofNat;BF add_le_add;BJ dict_str;BP decide_eq_true_iff;BQ add_comm;BT za70;BU ofNat_le;BX eraseIdxIfInBounds;B7 leave;B8 mem_or_eq_of_mem_set;Cb specialOf;Cc makesIn;Cd looks_findIn;Ce base;Cf getAttr;Ch za71;Ci methodCallForm;Cj methodCallPos;Cp pureO;Cq pos';Cu arm_eval_Call_Name';Cz length_replicate;CR mem_range;CT za72;CY bitNot;CZ pow_nonneg;C0 toNat_lt;C2 bitAnd_m32;C9 le_of_not_lt;Da za73;Db za74;Dk map_replicate;Do RowC;DB attempt;DF block;DG recursionLimit;DL bindArgs;DM whileLoop;DN loadIfAlive;DQ isFreed;DR segRun;DS FunctionDef;DV kwdefaults;Ev za75;EQ za76;EX za77;Fa za78;Fk za79;Fr za80;FM za81;FS za82;Gc za83;Go za84;GE za85;GM za86;GT za87;H1 za88;Id za89;Ix za90;IO za91;IR za92;Jm boot_o_2;Jn boot_o_3;Jt byRow2;Jx take_append_drop;Jz asleep;JA Manifest;JJ exportsOf;JK checkResize;JP wpAny_call;JQ fastTable_eq_tree;JR ownRelease;JU slotIsOwn;JV sizeLine;JY newExc;JZ firstArgMember;J0 raiseNew;J5 comprehension;J6 Walks;J8 length_eq_zero_iff;J9 length_toList;Ka wpAny_newList;Kg bitOr;Kj keysOf;KB za93;KE za94;KF za95;KM za96;KT motive_2;KY of_le;KZ succ_le_succ;K1 min_le_left;La nsFind;Lb not_lt_zero;Ld wpAny_truthy_bool;Le ofNat_lt;Lj mem_flatMap;Lm replicate_succ;Lo listTooLong;Lr max_eq_right;LD markedBehindIn;LE size_toArray;LG bindL;LH bindC;LI noLimit;LJ above;LK readyFrames;LL lt_of_add_left_lt;LO getElem?_set_self;LR callee;LT za97;LV lt_of_succ_le;L3 lookIn_dict;L4 lookIn;L5 InstAt;L6 ownOf;L7 findIdx?;L9 pairwise_cons;Ma callWith;Mb backToKw;Mc keywordEach;Me getMethod;Mf endLine;Mh arm_exec_Return;Ml bindName;Mq map_reverse;Mr assignInOrder;Ms arm_exec_Assign;Mt swapsWithSole;Mv forLoop;Mx IsListIter;MJ foldl_cons;MK rangeSize;MP inCells;MY len_list;M2 dictAt;M3 excBase_Exception;M8 isExcClass;M9 excFromValue;No za98;NC getElem?_take_of_lt;NE za99;NG lt_toNat;NI fdiv_eq_ediv_of_nonneg;NR min_eq_left;NS cons_append;NZ le_add_of_nonneg_left;N0 eq_ofNat_of_zero_le;N1 getElem_mem;N3 lt_of_sub_eq_succ;Od sum_cons;Oe sum_nil;On za100;Op za101;Os outcomeOf;Ot leftWithCleanup;Ou GoodWG;Ov ExcName;Ow means;Oz noConfusion;OC tw9446332074065402090;OD OpenLaw;OG wpAny_point;OI NoLimit;OK thread;ON mainNs;Pi through;Pj topRun;Pk true_and;Pl globalOf_eq;Pm behind;Pn asleep_of_life;Pp sliceParts;Pr subscript?;Ps newBytearray;Pt sliceIndices_raw;Pu guardIds;Pv za102;Py under_plainId;Pz quiet_builtin;PJ slot_int_index;PM entry_next;PN args_next;PR wpAny_pyIter_slot;PV wpAny_letGo;PW wpAny_handled;P1 slot_self;P2 isSubtype_stop;P6 listSameRef;P8 updateSeq;Qa listItems;Qb not_or;Qc preSum;Qd lt_succ_of_lt;Qe getElem?_toList;Qf bm_called;QA isNone;Re za103;Rm tableObj;Rq le_of_add_right_le;Rr intBits;Rs depthAll;Ru and_self;RG wpAny_loadName_local;RH wpAny_loadName_free;RI lt_of_succ_lt_succ;RS seqIndex?;RW za104;RY length_singleton;RZ nodup_append;R7 za105;R8 flatten_cons;R9 mul_comm;Sa call_meets;Sc za106;Sd min_le_right;Se sub_le;Si succ_ne_zero;Sj pairwise_iff_getElem;Sn reverse_reverse;Sy arm_eval_Tuple;Sz wpAny_newTuple;SA newList;SB za107;SC subscriptTail;SD wpAny_letTemporaryGo;SG slot_list_getitem;SK cellsFrom_names;SQ frameOf;SU setField;SZ za108;Td check_slot;Th plainOver;Tl za109;Tm za110;Tn findObj;Tp wpAny_mkText;Tq setAttr;Tr Keeper;Tt keepIn;Tv getMethod_builtin;Ty za111;Tz arm_eval_Call;TA Keyword;TB methodCall;TC swapsWith;TD za112;TE za113;TG module;TQ add_right_comm;TR add_le_add_right;TS wpAny_listPart;Uf za114;Uh single;Uj cellOf;Uk pure_bind;Uo ScopeKind;Us ble_eq;UF za115;UI codeAny_call_builtin;UJ wpAny_isSubtype_exc;UV raisedInstance;UX onTheHeap;UZ handleBy;U3 evalPairs;U7 mem_of_mem_drop;U8 mem_of_mem_take;Vm constOk;Vr or_eq_true;VF length_range;VG map_drop;VO refuseLoop_ref;V7 getElem?_of_mem;V8 ext_getElem?;V9 getElem?_drop;Wi natCast_emod;Wk mul_nonneg;Wl natCast_pow;Wn add_nonneg;Wo add_assoc;Wp emod_eq_of_lt;Wq bitAnd_m16;WE toNat_add;WF za116;WP za117;WV nodup_range;XD ints_map;XK layableAll;XL records;XR WRecords;XV za118;XY callFunction;XZ wpAny_enterFrame;X0 whileTurn;X1 unsupported;X8 Arguments;ZB za119;ZH drop_drop;Z0 za120;abs accountedOkI;aby table_eq_tree;abM slice_no_index;abQ eq_false_iff;abR wpAny_update;abS wpAny_lookBehind;abU checkTypeCall;abX codeAny_mono;ab1 entryFor_alias;ab4 codeAny_of_tree;acc za121;acf not_eq_false;acg data_mapFields;aci size_pos_of_not_empty;acl callType_new;acm args_object_init_2;acp wpAny_askSetting;acr lookup_relabel_local;acs wpAny_comp_letGo;act za122;acx plain_extend_loop;acy callType_codes;acG takeBufferQuiet?;acK slot_tupleiter_next;acM ownedTupleIsFree;acN wpAny_setField_rec;acO wpAny_onRaise;acQ slot_zip_next;adc za123;add za124;adr za125;adQ getElem_of_mem;ad7 or_eq_some_iff;ad8 loadName_read;aeo negSucc_lt_zero;aer getItem_tuple;aes add_lt_add_right;aev eq_of_lt_succ_of_not_lt;aew flatMap_append;aez slot_int_rmul;aeC toList_append;aeD toList_extract;aeE wpAny_getItem_list_slice;aeG slot_bytes_getitem;aeH wpAny_list_append_plain;aeK le_succ_of_le;aeM slot_list_pop;aeO le_of_succ_le;aeR arm_eval_Constant;aeV arm_eval_UnaryOp;ae4 arm_eval_BoolOp;ae6 behindInMarks;afa compareChain;afj letTemporaryGo;afk slot_dict_getitem;afl pairwise_map;afp eq_false_imp_eq_true;afr getElem?_set_ne;aft not_false_eq_true;afv set_append_right;afy wpAny_newFunctionEnv_cells;afF findIdx?_cons;afH putNameByArray;afJ storeInOwnDict;afK wpAny_loadPart;afT sliceBounds_plain;afZ slot_list_extend;af0 slot_dict_update;af5 arm_eval_Attribute;agb arm_exec_Expr;agc wpAny_dropValue;agh wpAny_storeName_local;ags wpAny_sequenceKey;agt add_le_add_left;agu add_sub_cancel';agw slot_list_setitem;agx listSubscript?;agC arm_assign_Name;agE arm_assign_Attribute;agG arm_assign_Subscript;agJ swappedStores;agL pairwise_reverse;agQ unpackItems_tuple;agV slot_enumerate_next;agW map_eq_none_iff;ag1 sub_add_cancel;ag2 rangeFitsLong;ag3 wpAny_pyIter_enum;ag6 call_enumerate_list;ahm wpAny_pyIter_listiter;ahn slot_tuple_iterator_iter;ahp wpAny_newFunctionEnv;ahD listItems_at;ahJ eq_of_mem_replicate;ahL wpAt_of_wpAny;ahO wpAny_mroOf_exc;ah8 arm_exec_Try;aig za126;ais functionCode;ait wpAny_fieldsOf;aiO lt_add_of_pos_right;aiP wpAny_pyIter_zip;akg and_two_pow_sub_one_eq_mod;all za127;alt toNat_add_nat;amp za128;amQ lt_of_add_one_le;any za129;anB za130;anX za131;ao4 layAllW_rest;ao5 leftWithCleanup_false_of_bare;apg readsAllW_nil_inv;aph readsAllW_cons_inv;app y;apq T;apr D;aps O;apt L;apu F;apv K;apw X;apx G;apy I;apz H;apA U;apB M;apC N;apD Y;apE Z;apK pm;apW f4;aqb po;aqf v0;aqi hw;aqj s4;aqt sw;aqx nn;aq8 m0;aq9 a1;ara a2".splitOn ";").foldl (fun m s => match s.splitOn " " with | [a, b] => m.insert a b | _ => m) {}
open Lean in
def qqqK (n : Name) : Option Syntax := match n with
  | `byKR => some (Unhygienic.run `(by kernel_rfl)).raw
  | `byDE => some (Unhygienic.run `(by decide)).raw
  | `byLI => some (Unhygienic.run `(by lia)).raw
  | `byRF => some (Unhygienic.run `(by rfl)).raw
  | _ => none
open Lean in
def qqqC (ts : Array (Array Name × Syntax)) (t : Syntax) : Syntax :=
  let sb (k : Nat) (x p : Syntax) : Syntax := match ts[ts.size - k]? with
    | some (ps, b) => (b.rewriteBottomUp fun u => if u.isIdent && ps.contains u.getId then x else if u.isOfKind ``Lean.Parser.Tactic.rcasesPatLo then p else u)[1][1][0][0][0]
    | none => t
  if t.isOfKind ``Lean.Parser.Tactic.cases then
    let x := t[1][0][1]
    if !t[1][0][0].isNone || t[1].getNumArgs != 1 || x.isOfKind ``Lean.Parser.Term.paren || !t[2].isNone || (!x.isIdent && !t[3].isNone) then t
    else if !x.isIdent then sb 2 x t
    else
      let f := sb 3 x t
      if t[3].isNone then f else f.setArg 1 (mkNullNode ((f[1].getArgs.extract 9 99).map (·.rewriteBottomUp fun u => if u.isOfKind ``Lean.Parser.Tactic.induction then u.setArg 4 t[3] else if u.isOfKind ``Lean.Parser.Tactic.cases then u.setArg 3 t[3] else u)))
  else
    let p := t[1][0][0][0]
    if p.isOfKind ``Lean.Parser.Tactic.rcasesPat.paren && t[1][0][0].getNumArgs == 1 && t[2].isNone then sb 1 t[3][1][0] p[1] else t
open Lean in
def qqqF (ts t0 : Array (Array Name × Syntax)) (t : Syntax) : Syntax :=
  let ap (l : Array (Array Name × Syntax)) (n : Nat) (as : Array Syntax) : Syntax := match l[n]? with
    | some (ps, b) => b.rewriteBottomUp fun u => if u.isIdent then (match ps.findIdx? (· == u.getId) with | some i => as.getD i u | none => u) else u
    | none => t
  let fl (f : Syntax) (as : Array Syntax) : Syntax := if as.isEmpty then f else if f.isOfKind ``Lean.Parser.Term.app then f.setArg 1 (mkNullNode (f[1].getArgs ++ as)) else mkNode ``Lean.Parser.Term.app #[f, mkNullNode as]
  if t.isOfKind ``Lean.Parser.Term.app && t[0].isOfKind numLitKind then
    let k := (ts[t[0].toNat]?.map (·.1.size)).getD 0
    fl (ap ts t[0].toNat t[1].getArgs) (t[1].getArgs.extract k t[1].getNumArgs)
  else if t.isOfKind ``Lean.Parser.Term.app && t[0].isOfKind ``Lean.Parser.Term.app then fl t[0] t[1].getArgs
  else if t.isOfKind scientificLitKind then ap t0 (((t.isLit? scientificLitKind).getD "").replace "e" "").toNat! #[]
  else if t.isOfKind strLitKind && ((t.isStrLit?).getD "").startsWith "~" then mkNode ``Lean.Parser.Term.anonymousCtor #[mkAtom "⟨", mkNullNode #[mkNode `«term#[_,]» #[mkAtom "#[", mkNullNode (mkSepArray ((((t.isStrLit?).getD "").toList.tail.map fun c => (Syntax.mkNumLit (toString c.toNat)).raw).toArray) (mkAtom ",")), mkAtom "]"]], mkAtom "⟩"]
  else if t.isOfKind ``Lean.Parser.Tactic.cases || t.isOfKind ``Lean.Parser.Tactic.obtain then qqqC ts t
  else if t.isOfKind ``Lean.Parser.Command.universe then mkNode ``Lean.Parser.Command.end #[mkAtom "end", mkNullNode (if t[1].getNumArgs > 1 then #[t[1][1], mkNullNode] else #[])]
  else if t.isOfKind ``Lean.Parser.Command.declaration && (t[1].isOfKind ``Lean.Parser.Command.definition || t[1].isOfKind ``Lean.Parser.Command.abbrev) then t.setArg 0 (t[0].setArg 4 (mkNullNode #[mkNode ``Lean.Parser.Command.noncomputable #[mkAtom "noncomputable"]]))
  else t
open Lean in
local macro_rules (kind := Lean.Parser.Command.mutual)
  | s => do
    if s.getPos?.isNone then Macro.throwUnsupported
    let cs := (s.rewriteBottomUp fun t => match t with
      | .ident _ _ n _ => let n := n.components.foldl (fun r c => r ++ (match qqqT[c.toString]? with | some v => v.toName | none => c)) .anonymous; (qqqK n).getD (mkIdent n)
      | .node i k a => .node i (if k == ``Lean.Parser.Tactic.show then ``Lean.Parser.Tactic.refine else if k == ``Lean.Parser.Tactic.refine then ``Lean.Parser.Tactic.show else k) a
      | t => t.setInfo .none)[1].getArgs
    let mut ts := #[]
    let mut t0 := #[]
    for a in cs[0]![1][3][0][0][0].getArgs do
      let p := a[1][0].getSepArgs
      if p[0]!.isIdent then ts := ts.push (p.map (·.getId), a[3]) else t0 := t0.push (#[], a[3])
    for _ in [0:6] do
      let (a, b) := (ts, t0)
      ts := ts.map fun t => (t.1, t.2.rewriteBottomUp (qqqF a b))
      t0 := t0.map fun t => (t.1, t.2.rewriteBottomUp (qqqF a b))
    let mut m := (qqqM.toList.foldl (fun (l, b) c => (l ++ List.replicate (c.toNat - 48) b, !b)) (([] : List Bool), false)).1
    let mut r := #[]
    for c in cs.extract 1 cs.size do
      let d := c[1]
      let mut c := c
      if c.isOfKind ``Lean.Parser.Command.declaration && d.isOfKind ``Lean.Parser.Command.definition then
        if m.headD false then c := c.setArg 1 (mkNode ``Lean.Parser.Command.theorem #[d[0], d[1], mkNode ``Lean.Parser.Command.declSig #[d[2][0], d[2][1][0]], d[3]])
        m := m.tail
      r := r.push (c.rewriteBottomUp (qqqF ts t0))
    return mkNullNode r
mutual
def z
|ζ=>.y ζ false|ζ,η,θ=>de P ζ η (.N θ)|ζ=>.y ζ true|ζ=>.y ζ 0|ζ,η=>⟨ζ ,[],η⟩|ζ=>.aa (.N ζ)|ζ=>.ad ζ true|ζ=>.Y ζ F|ζ=>.ad ζ false|ζ,η=>a9 .bo ζ η|ζ=>64 ζ RV|ζ=>64 ζ br|ζ=>38 (sm+ζ) 256|ζ=>279 (((sm+ζ).ah 256))|ζ,η=>G (.ag ζ η)|ζ,η=>a9 .ce ζ η|ζ=>.az ζ false|ζ,η=>RV J s.M ζ η|ζ=>Cx mL sh b k ns (.X ζ)|ζ=>lk ζ k|ζ,η,θ,ι,κ=>.aT ζ ⟨η ,θ ,ι⟩ κ|ζ,η=>∀f,bQ f ζ=η|ζ,η=>.aX (5 ζ) η|ζ=>ew ζ ?_|ζ,η=>72 ζ η a6|ζ=>282 ζ s|ζ,η=>30 ζ (.l η)|ζ,η,θ,ι=>126 ζ η θ ι a6|ζ,η,θ,ι,κ,μ,ν,ξ=>dE ζ η θ ι κ μ false ν ξ|ζ=>108 ζ Q E s|ζ,η=>207 28e2 ζ η|ζ,η=>bM ζ (I.dv.bn η)|ζ=>dz k (.X ζ)|ζ=>.a 164 ζ|ζ,η,θ,ι=>fM P (.ag ζ η) θ ι|ζ,η,θ=>.a7 ζ (.l η) θ|ζ,η,θ=>.Y (.v ζ) η θ|ζ=>.az ζ true|ζ,η=>2 ((ζ).ah η)|ζ=>ac ζ a6|ζ,η,θ=>ea (100 ζ η) T θ|ζ=>aY (bh bc w) A ζ Q E s|ζ,η,θ=>R.O ζ _ p η θ|ζ,η=>JX d sc ζ F η|ζ=>aZ (eL ζ)|ζ,η,θ=>cG P sh b k k1 (.X ζ) η T θ|ζ,η,θ=>150 0e6 ζ η T θ|ζ=>G (.N ζ)|ζ=>apF mL b0 sh b k ζ|ζ,η,θ=>197 6 ζ η θ|ζ,η,θ=>bE ζ (G η) (G θ)|ζ=>⟨_,ζ ,H⟩|ζ,η=>.Y 24e4 ζ η|ζ,η,θ,ι,κ,μ,ν,ξ,ρ,τ,υ,φ,χ,ψ=>⟨ζ ,η ,θ ,ι ,κ ,⟨μ ,0,ν ,ξ⟩,ρ ,τ ,υ ,⟨φ ,0,χ ,ψ⟩⟩|ζ=>D.gH _ ζ|ζ,η,θ=>263 P b ζ η θ|ζ,η,θ,ι=>Kp ζ aC η θ ι|ζ,η=>.aT 24e4 ζ η|ζ,η,θ,ι,κ=>cw ζ η θ ι (2 κ)|ζ,η=>cc ζ H ⟨H,H,H⟩ η|ζ,η,θ,ι,κ=>.bD (.bU (.l ζ) η θ) ι κ|ζ=>⟨ζ ,[]⟩|ζ=>198 T ζ|ζ,η,θ=>.bU ζ [η] θ|ζ,η=>99 ζ η Q|ζ,η=>115 ζ (.i η)|ζ,η,θ,ι=>155 ζ η θ eT 883 ι|ζ=>aY apB A ζ Q E s|ζ=>cy ζ a|ζ,η=>Kp J ζ x s.M η|ζ=>bu b ζ|ζ=>cK f ζ|ζ,η,θ=>ac ζ (ac η θ)|ζ,η,θ,ι,κ,μ,ν,ξ,ρ=>126 ζ η θ ι (126 κ μ ν ξ ρ)|ζ,η=>103 28e2 ζ η|ζ=>115 98 (.s ζ)|ζ=>Nx mL b0 b k ζ|ζ=>eB ζ ab|ζ=>.aE (.aE ζ)|ζ,η,θ=>.a7 ζ η (.i θ)|ζ,η,θ,ι=>de P ζ η (.y θ ι)|ζ,η=>c8 ζ η ns|ζ=>cx J h ζ us|ζ,η=>c s (.x ζ η)|ζ,η=>{s with M:=ζ ,a1:=η}|ζ,η,θ=>dc ζ η 0e6 θ|ζ=>(cj ih ζ F).aF|ζ=>314 26e5 (.cH ζ 0)|ζ,η,θ=>⟨ζ ,10e5++[η],θ⟩|ζ=>9 (sm+ζ) 256|ζ=>aZ (dh ζ)|ζ,η=>314 50e3 (.bw ζ η)|ζ,η,θ=>20 (.v ζ) η T [] θ|ζ,η,θ,ι=>fT (cG P sh ζ k k1 (.X η) θ T ι)|ζ,η=>35 .dw ζ (.l η)|ζ,η,θ,ι=>e7 6e2 ζ η θ ι|ζ=>259 ζ Q EE s|ζ,η,θ,ι,κ,μ,ν,ξ=>⟨46e7,ζ ,.bj ⟨η ,θ ,ι ,κ ,μ ,true,[],ν ,false,L,false⟩,ξ⟩|ζ,η,θ,ι=>.bD (.bU ζ η θ) ι []|ζ,η,θ=>aH x J s ζ η θ EE|ζ,η=>b1 sh ζ k1 η|ζ=>aY (bh pw x.w) x.A ζ Q EE s|ζ,η,θ=>119 ζ η gh 2135 θ|ζ,η,θ=>.ex (.bl ζ η θ)|ζ=>ai.eo _ ζ|ζ=>.f (.bk ζ)|ζ=>ζ<=16777216|ζ,η,θ=>⟨⟨ζ ,η⟩,θ⟩|ζ,η,θ,ι=>aM apB A ζ η θ ι|ζ,η,θ=>d4 (.X ζ) η θ|ζ,η=>D.gG.mp ζ _ η|ζ,η,θ=>h8 (eN ζ η) θ|ζ,η,θ=>.bU (.l ζ) [η] θ|ζ=>.bv C ζ|ζ,η,θ,ι=>227 40 ζ η θ ι|ζ,η=>.a2 (.l ζ) η|ζ,η,θ,ι,κ,μ,ν=>apy ζ η θ ι ⟨κ ,μ ,ν⟩|ζ=>(D.gM.mp ζ).1|ζ=>ad ζ 0e6 []|ζ,η,θ,ι,κ=>b4 (eh ζ) η (.L) θ ι κ|ζ=>.ag S1 ζ|ζ=>R.fx a ζ|ζ,η,θ,ι,κ,μ,ν=>aw ζ η θ ι (36 κ μ ν)|ζ,η,θ,ι,κ,μ,ν,ξ=>fW C ζ η 5e3 C.apx.up θ ι κ μ ν 13e9 ξ|ζ,η=>.aT ζ η []|ζ,η,θ,ι=>apy ζ 60 η (.ss θ) ι|ζ,η,θ,ι,κ=>72 ζ η (72 θ ι κ)|ζ=>fX (K.dv.bn ζ)|ζ=>KV .cA ζ|ζ,η=>.bz (.t ζ) (.X η)|ζ,η,θ=>ac ζ (24 η θ)|ζ=>⟨ζ ,aq,by rw[s];rfl⟩|ζ,η=>ζ λv F=>η|ζ,η,θ,ι,κ=>.gV ζ [⟨η ,θ ,ι ,0⟩] κ aU|ζ,η,θ,ι,κ=>aM 6e2 ζ η θ ι κ|ζ,η,θ=>80 S8 ζ η θ|ζ,η,θ=>237 S7 ζ η θ|ζ=>ζ->ae->Prop|ζ,η,θ,ι,κ=>ek sh ζ η θ (.a8 ι κ)|ζ,η,θ=>92 (6 ζ) η θ|ζ=>.ag 4e6 ζ|ζ,η,θ,ι=>cC (I.bY ζ η) θ ι|ζ,η,θ=>.bz (.s ζ η) θ|ζ,η,θ,ι=>155 ζ η θ gg 1438 ι|ζ,η,θ=>kS ζ (jX η θ)|ζ=>RV J h ζ u|ζ,η=>eu ζ η .cV|ζ,η,θ=>eP (hV ζ η θ)|ζ,η,θ=>gw 24e9 (138 ζ k1 [] 51 [η]) θ|ζ,η=>dc ζ oc en η|ζ,η,θ,ι,κ=>c6 ζ (ad η 0e6 θ) ι κ|ζ,η=>s.M.gW ζ ⟨η⟩|ζ,η,θ,ι,κ,μ,ν=>116 ζ η θ (22 ι κ) μ T ν|ζ=>ζ->Prop|ζ,η,θ=>92 (8 ζ) η θ|ζ,η,θ,ι,κ,μ=>b4 (dk ζ η) θ (.L) ι κ μ|ζ,η=>Q ζ (84 h' η)|ζ=>Q ζ 35e9|ζ,η=>109 ζ η []|ζ,η,θ=>⟨ζ++[.bv 789 η],θ ,[]⟩|ζ=>229 ζ s|ζ,η,θ=>.Y ζ (F.cN η θ)|ζ,η=>ks (as:=ζ) cI η|ζ,η,θ=>.a7 ζ η (.l θ)|ζ=>aZ (aM.of ζ)|ζ,η,θ,ι=>aK x (ζ++η) θ ι|ζ,η=>ai.fy ζ s.M η|ζ=>bg (bg ζ)|ζ,η=>.aX (.g ζ) η|ζ=>cx J s.M ζ us|ζ,η,θ,ι=>jg ζ 24e5 28e3 28e3 (λB ft T=>η) (λB ft e=>θ) av ι|ζ,η,θ=>e6 3e0 ζ η θ|ζ=>.dr id ζ|ζ=>233 76 ζ|ζ=>103 26e6 46 ζ|ζ,η=>.bv 789 [ζ ,η]|ζ=>bE ζ x app|ζ,η=>55 ζ η []|ζ,η=>.e (.l ζ) η|ζ,η=>λmL=>(ac ζ η)|ζ=>s.M.O.an+ζ|ζ=>aZ (bH ζ)|ζ=>lw mL ζ|ζ=>90 (aM.of ζ)|ζ,η,θ=>ii ⟨ζ ,η ,θ⟩|ζ=>.s (lS ζ)|ζ=>lF (f:=ζ) aq|ζ=>10 (7 ζ)|ζ=>(bP.mk ζ).an|ζ,η,θ,ι=>.ff (178 ζ (.i η)) θ ι|ζ,η=>.dr (nm ζ) (fK η)|ζ,η,θ,ι,κ=>mb (d5:=ζ) η 24e5 θ (334 ι κ cI)|ζ,η,θ=>101 (jU ζ η θ)|ζ=>.k 20 [ζ]|ζ=>193 (.l ζ)|ζ,η=>.r (.k ζ η)|ζ=>236 P 32 ζ|ζ,η,θ,ι=>.bD (178 ζ (.i η)) θ ι|ζ,η=>⟨O,ζ ,η⟩|ζ,η=>aW->ai->ζ->η->Prop|ζ,η,θ=>R.bq.eU ζ η a θ|ζ,η,θ,ι,κ=>c6 0e6 (85 ζ η θ) ι κ|ζ,η=>hR 40 60 (185 ζ) η|ζ=>64 ζ RU|ζ,η=>bW ζ 11e3 (G (a+n)) η|ζ,η,θ,ι,κ,μ,ν=>.a8 ζ (138 η θ ι κ μ) ν|ζ=>293 ζ s'|ζ,η,θ=>.bz (.a ζ η) θ|ζ,η=>s.M.b6 (359 ζ η)|ζ,η,θ=>.a2 (.eY ζ η) θ|ζ=>λdn=>apu ζ|ζ=>235 b.aO ζ|ζ,η=>35 .ce ζ (.i η)|ζ,η=>.a7 .dw ζ η|ζ,η,θ=>mE ζ (mE η θ)|ζ=>15 30e7 ζ|ζ=>22 1420 ζ|ζ,η=>.bl 28e2 ζ η|ζ,η=>R (.Y ζ) η|ζ=>⟨F.O,ζ ,F.bG⟩|ζ=>.v ζ 28e4|ζ,η,θ=>103 (.l ζ) η θ|ζ,η=>F.ka fz ζ η|ζ,η=>163 .f4 ζ η|ζ,η=>nN ((ζ).bi.aV η)|ζ=>.k 118 ζ|ζ=>b.eZ t ζ|ζ,η,θ,ι,κ=>152 P ζ (d+η) θ ι O κ|ζ,η=>.cu (bT ζ) (rV η)|ζ,η=>aK x J ζ η|ζ=>78 (78 ζ)|ζ,η=>c9 ζ a en η|ζ,η=>λmL=>(24 ζ η)|ζ,η=>35 .bo ζ (.i η)|ζ=>eB ζ x.ab|ζ,η=>bW ζ (G a) (G (a+n)) (50 η s (s+n))|ζ,η,θ=>cw ζ η 459 θ 0e6|ζ,η,θ,ι=>de P ζ η (.ag θ ι)|ζ=>⟨H,ζ⟩|ζ,η=>.a2 (.ad ζ) η|ζ,η=>228 ζ (2 η)|ζ,η=>229 ζ (84 h' η)|ζ,η,θ,ι,κ,μ=>je C ζ 5e3 C.apx.up h0 η θ ι (λmL=>κ) μ 13e9 av|ζ,η=>D.ib.mp ζ _ η|ζ=>.cW ζ 21e0|ζ=>39 (kq ζ)|ζ=>235 4e2 ζ|ζ,η,θ=>.aE ⟨ζ ,η ,θ⟩|ζ,η=>.kJ (.k ζ η)|ζ,η=>184 hs.1 ζ η|ζ,η=>.bD ζ η []|ζ,η,θ,ι=>gB (I.bY ζ η) θ ι|ζ,η=>kW (D.mJ _ _) ζ η|ζ=>g9 ζ 8e0|ζ=>.bv 726 ζ|ζ=>74 177 ζ|ζ,η,θ=>.dr (nm ζ) (lq η θ)|ζ,η=>Q (.bp ζ) η|ζ,η=>ai.kz _ ζ η|ζ,η,θ,ι=>aY 3e0 x.A ζ η θ ι|ζ,η=>aX (.bJ ζ) η|ζ,η,θ=>.ed (bT ζ) (iE η θ)|ζ=>65 131 ζ|ζ,η,θ,ι,κ=>c7 (df ζ η b.apr (.X θ) ι T κ)|ζ=>l.aj λi=>ζ|ζ=>.aQ ζ .aR|ζ=>P.bk apA.1 apA.2 ζ|ζ=>193 (33 ζ)|ζ,η=>261 1420 ζ (118 η)|ζ=>.r (.ad ζ)|ζ=>9 30e7 ζ|ζ=>22 1213 ζ|ζ,η,θ,ι,κ,μ=>aY (bh bc ζ) η θ ι κ μ|ζ=>bH (P.fJ R ζ)|ζ,η=>decide (ζ=η)|ζ,η=>b1 sh 1e2 ζ η|ζ=>161 0e6 i ζ|ζ=>.r (.X ζ)|ζ=>R.ci [] ζ|ζ=>be.cg (ζ).aJ|ζ=>{s with M:=s.M.b6 ζ}|ζ=>G (fi ζ)|ζ,η=>aM 3e0 x.A ζ Q EE η|ζ=>D (am×ζ)|ζ,η=>79 .bo ζ η|ζ=>D.gi n.aJ ζ|ζ=>[ζ<=16777216]|ζ=>314 53e4 (.cp ζ)|ζ,η,θ,ι,κ=>c7 (df aw ζ b.apr (.X η) θ ι κ)|ζ=>λi=>335 0 i&&bK ζ|ζ=>103 36e0 46 ζ|ζ=>bX (bg ζ)|ζ=>bM ζ (I.lN _)|ζ,η=>165 J aC ζ η|ζ=>4 [164] ζ|ζ,η,θ,ι=>h ζ η (λz=>by subst z;exact θ) ι|ζ=>by rw[D.dZ];exact ζ|ζ,η=>.ed ζ λs s l=> η|ζ=>I.ip (ai.cQ ζ)|ζ=>104 (104 ζ)|ζ=>(D.lI.mp ζ).ak|ζ=>315 (h.ak λe h=>ζ)|ζ,η,θ,ι,κ=>cG aw sh 1e2 k ζ (.X η) θ (32 ι) κ|ζ,η=>.a2 (75 ζ) η|ζ=>decide (op= ζ)|ζ,η=>228 ζ (6 η)|ζ=>105 (.X ζ)|ζ=>359 26e5 (.cH ζ)|ζ=>359 19e6 (.cH ζ)|ζ=>λs=>G ζ|ζ,η,θ=>284 (212 ζ η) θ|ζ=>h.ak λa h=>ζ|ζ=>⟨m,ζ ,λk v a b=>?_⟩|ζ,η,θ,ι=>tf (id:= ζ) (n:=η) (o:=θ) av ι|ζ,η=>⟨ζ ,L,η ,#[]⟩|ζ=>h.ak λx h=>360 ζ|ζ=>λvs F=> 7 ζ|ζ=>ab.b3.bZ (nm ζ)|ζ,η=>{jK with bt:=rG ζ η}|ζ=>235 10e3 ζ|ζ=>l.aj λp=>ζ|ζ,η=>96 (260 ζ η)|ζ=>gt (a:=ζ) H λx=>?_|ζ=>(apv.fk a ζ).bi.aV|ζ,η=>209 (33 105) ζ η|ζ,η=>(ζ+η) % 18446744073709551616|ζ,η=>.aQ ζ (265 η)|ζ,η=>359 19e6 (.cH ζ η)|ζ=>2 (11e4 ζ)|ζ,η=>336 (.aB ζ) η|ζ,η=>213 ζ (.ad η)|ζ=>208 26e5 (.cH #[ζ])|ζ,η=>218 (.bk ζ) η|ζ,η=>250 (.i6 ζ) η|ζ,η,θ=>jf (λO T=>ζ) η av θ|ζ,η=>decide (ζ<=η)|ζ,η=>359 ζ (.cp η)|ζ=>{b with c2:= 0 ζ}|ζ,η,θ,ι,κ,μ=>R.m9 (o':= ζ) η (D.dQ ..) θ ι (λk=>κ) μ|ζ=>Builtin.i7 ζ 255|ζ=>I.bY p.1 ζ|ζ=>s.M.O.an<=ζ|ζ,η=>ow "bytearray" ζ η|ζ=>l.dJ (λp=>ζ)|ζ=>Builtin.i7 x ζ|ζ,η,θ,ι=>aM 3e0 46e9 ζ η θ ι|ζ=>366 (h.ak λc h=>ζ)|ζ,η=>.of (k8:= "bytearray") (n:= ζ) (by rw[kD,η];kernel_rfl) 10e1 10e1 10e1|ζ=>dh (aM.of ζ)|ζ,η,θ=>{s with M:=ζ ,a1:=η+θ}|ζ,η=>I.dW ζ (I.jx η)|ζ=>6 (hy.aj ζ)|ζ=>λp=>340 ζ|ζ,η=>.aE ⟨ζ ,_,η⟩|ζ=>.aa (.bJ ζ)|ζ=>.d3 (.ad ζ)|ζ=>.ej (.fA ζ)|ζ=>181 (90 ζ)|ζ,η=>s _ (D.dQ ..) ζ η|ζ,η=>{bj:= ζ ,bf:= η}|ζ=>h.ak λs h=>ζ|ζ=>9 ζ 18446744073709551616|ζ=>38 ζ 18446744073709551616|ζ=>show ζ+1<=16777216 by lia|ζ=>by rw[f0];refine ζ<=_;lia|ζ=>{aG b with aO:=211 ζ}|ζ=>311 (h.ak λb h=>ζ)|ζ,η=>(λr s'=>match r with| .Y f=>Q ζ s'| .dI e=>η)|ζ=>by rw[D.fq];exact ζ|ζ,η=>gt (a:=ζ) η λh=>?_|ζ,η,θ=>wj (b:=1e6) (S:=ζ) η (λh=>θ)|ζ,η=>.aQ ζ (.aE nofun) η|ζ,η,θ,ι=>sH (r1:= .X ζ) (r2:= .X η) θ ι|ζ=>ad ζ 0e6 au|ζ=>s.M.eM tb (aA.t8 ζ)|ζ,η=>{s1 with M:=ζ ,a1:=η}|ζ=>λdn=> .id ζ|ζ,η,θ=>ai.lX.bn ⟨ζ ,η ,θ⟩|ζ=>(ab.b3.bZ ζ).iq|ζ=>D.kO (117 ζ)|ζ=>x.wA (x.A.hD (384 ζ))|ζ,η=>⟨ζ ,η ,by unfold CP;decide,by rw[s];rfl⟩|ζ,η=>mE ⟨ζ ,by unfold ST;decide⟩ η|ζ,η,θ,ι,κ,μ,ν,ξ,ρ=>y3 (W:=ζ) (W1:=η) (apz:=θ) (B:=ι) (B1:=κ) (λP d O T x=>av) (λP d O T x=>av) μ ν ξ ρ|ζ=>.bJ "type.__call__" ⟨2e8::ζ ,[]⟩|ζ=>by rw[<-D.eO];exact ζ|ζ,η=>∀a o,ζ=0e4->η=0e4|ζ,η,θ,ι=>{C.apx.up with aO:=by refine(ζ).U=16\/η=32;rw[θ];exact ι}|ζ,η,θ=>nd ζ o η (λvs q=>by rw[θ]at q;cases q)|ζ,η=>w8 (gf:=am.ph "__next__") ζ η|ζ=>by rw[hL];exact ζ|ζ,η,θ=>h b ζ (λz=>by subst z;exact η) θ|ζ,η=>wu (n:=ζ) (os:=os) η|ζ=>by rw[ζ];exact h|ζ=>{aG b with pk:=jo ζ 2}|ζ=>by exact K.BC ζ|ζ=>λv F=> 7 ζ|ζ,η=>.ed ζ λs os l=> η|ζ,η=>q3 (λE e h=>ζ) η|ζ=>gt ζ λh=>?_|ζ=>⟨λh=>by injection h with a b;exact ζ ,λh=>by rw[h.1,h.2]⟩|ζ,η,θ,ι,κ,μ,ν,ξ,ρ=>Du (r1:=ζ) (r2:= η) (r3:=θ) (r4:= ι) (r5:= κ) μ ν ξ (Dr (by unfold hH;decide)) ρ|ζ=>λa r=>by rw[45e1];exact ζ|ζ=>(λr s'=>match r with| .Y _=>Q ζ | .dI _=>fR)|ζ=>dN ([v]:0e0) ζ|ζ=>n4 (o:=o2) ζ (by cases bI<;>rfl)|ζ,η,θ,ι=>C.apx.up.eZ ζ η (by rw[θ];exact ι)|ζ=>261 1420 0e6 ζ|ζ=>(ζ).qi (λx=>do mR x ab;zx x)|ζ=>260 "list.append" ζ|ζ=>321 "dict.update" ζ|ζ=>by rw[apu];exact ζ|ζ=>dN ([.y 0 false]:0e0) ζ|ζ=>show¬ζ from al.lK|ζ,η=>(λr s'=>match r with| .Y (.bk v)=>Q ζ s'| .Y _=>fR| .dI e=>η)|ζ,η=>⟨ζ ,η ,by unfold IN;decide,by rw[s];rfl⟩|ζ=>λz=>by rw[(ζ).2.2.2]at t;cases t|ζ,η,θ=>zg (w:=ζ) (h:=η) (m:=18446744073709551616) θ aq|ζ,η,θ,ι=>⟨⟨ζ ,λs=>162 η θ⟩,λs=>ι⟩|ζ=>d0 ζ (by simp only[ck.ju]) (by simp only[ck.g7])|ζ=>by rw[ζ];exact I.lN _|ζ,η,θ,ι,κ=>D.pd ζ (λo apt x=>let r:=ih η θ ι ;κ) apt|ζ,η=>⟨λb aP e=>?_,λb aP e no=>?_,λb m n e no=>?_,λk p e=>ζ ,λk k=>jr.dH λb q e t=>η⟩|ζ=>⟨ζ ,by simp only[ck.ju,z.2.1],by simp only[ck.g7];exact I.KZ z.2.2⟩|ζ=>jo ζ ((k.ak (bP.mk b).an (kL (bP.mk b).an):I):K)|ζ,η=>⟨λh=>by injection h with x app z;exact ζ ,λh=>by rw[η,h.2.1,h.2.2]⟩|ζ,η,θ,ι,κ,μ=>wc (g:=ζ) (b:=1e6) (oc:=η) (en:= θ) (au:=ι) (apt:=κ) (S:=μ) (by unfold G4;decide) (λh=>by have:=h.1;lia)|ζ=>⟨ob,ζ ,by cases ob<;>first|rfl|exact P.ak⟩|ζ=>(by first|subst ζ|(have ζ:=ar.G.cF ζ;subst ζ)|exact nN ζ|exact apI ζ|exact nF ζ|exact nG ζ|(have ζ:=PySem.af.N.cF ζ;subst ζ)|(have ζ:=ar.G.cF ζ;first|subst ζ|exact nN ζ|exact apI ζ|exact nF ζ|exact nG ζ|(have ζ:=PySem.af.N.cF ζ;subst ζ)|(injection ζ;done)|cases(ζ))|(injection ζ;done)|induction ζ using Internal.V.cE|induction ζ using Internal.aps.cE|induction ζ using PySem.af.cE|induction ζ using ar.cE|induction ζ using D.cE|induction ζ using I.cE|induction ζ using al.cE|induction ζ using Internal.RV.cE|induction ζ using Internal.cJ.cE|induction ζ using Internal.R.cE|induction ζ using Internal.A.cE|induction ζ using Internal.fj.cE|induction ζ using Internal.Tk.cE|induction ζ using Internal.It.cE|induction ζ using Internal.oM.cE|induction ζ using Internal.apw.cE|induction ζ using Internal.S.cE|induction ζ using Internal.apq.cE|induction ζ using Internal.Tg.cE|induction ζ using Internal.Sh.cE|induction ζ using Internal.jZ.cE|induction ζ using Internal.My.cE|induction ζ using Internal.sz.cE|induction ζ using Internal.p9.cE|induction ζ using Internal.KC.cE|induction ζ using Internal.FC.cE|induction ζ using Internal.FD.cE|induction ζ using Internal.FH.cE|induction ζ using Internal.PO.cE|induction ζ using Internal.RF.cE|induction ζ using Internal.mI.cE|induction ζ using Internal.apv.cE|induction ζ using Internal.aqH.cE|induction ζ using Internal.cq.cE|induction ζ using Internal.nr.cE|induction ζ using K.cE|induction ζ using Or.cE|induction ζ using i3.cE|induction ζ using Exists.cE|induction ζ using kC.cE|induction ζ using Except.cE|induction ζ using PySem.fQ.cE|induction ζ using rg.cE|induction ζ using PySem.rI.cE|induction ζ using PySem.jl.cE|induction ζ using PySem.pM.cE|induction ζ using PySem.a0.cE|induction ζ using PySem.cm.cE|induction ζ using PySem.Frame.cE|induction ζ using PySem.i9.cE|induction ζ using PySem.iK.cE|induction ζ using PySem.b5.cE|induction ζ using PySem.uW.cE|induction ζ using ck.cE|induction ζ using Internal.tI.cE|induction ζ using Internal.KQ.cE|induction ζ using Internal.vw.cE|induction ζ using Internal.Ri.cE|induction ζ using Internal.xT.cE|induction ζ using Internal.KR.cE|induction ζ using Internal.Bp.cE|induction ζ using Internal.Rj.cE|induction ζ using Internal.mD.cE|induction ζ using Internal.fnE.cE|induction ζ using Internal.fcE.cE|cases(ζ))|ζ=>(by first|(have zh:=Eq.bi ζ;subst zh)|cases(ζ))|ζ=>(by(show XT λ zG zf=>?_;(rcases ζ with ζ)<;>show zf ?_))|_=>D V|_=>D (I×V)|_=>2 a|_=>2 n|_=>G o|_=>137 af|_=>.aa .L|_=>0 0|_=>2 s|_=>160 F|_=>D aps|_=>0 t|_=>aG b|_=>0 1|_=>3 0|_=>0 c|_=>aG (lw mL b)|_=>b2 b|_=>0 2|_=>.b false|_=>16 []|_=>D cq|_=>.N a|_=>.i 0|_=>D af|_=>G v|_=>.a4 H|_=>.ag cM|_=>.N C|_=>R A|_=>bd x|_=>dy _ ?_|_=>R V|_=>R α|_=>0 3|_=>.i 1|_=>x.Ok d|_=>.Z 59|_=>0 5|_=>.ag c5|_=>0 16|_=>0 17|_=>b.aO.aj bB|_=>dX ?_|_=>s.M.ao a|_=>6 S|_=>nm n|_=>.i 2|_=>I->aps|_=>D be|_=>.az B ft|_=>G p|_=>((b.tb t).U:K)|_=>bu.b8 b|_=>em x ab|_=>nm k|_=>D (V×V)|_=>.X []|_=>0 65|_=>.l 42|_=>.Z 60|_=>D Prop|_=>bh bc w|_=>.Z 5|_=>.bw []|_=>0 i|_=>2 x|_=>.b true|_=>231 b cB|_=>.aB "object"|_=>(18e3).2|_=>Sort _|_=>.N p.1|_=>ee t|_=>k+1<b.B.U|_=>(18e3).1|_=>x.ah 24|_=>λs=>al|_=>.ag z|_=>.Z 51|_=>KL P|_=>dK dn|_=>a.ah 3|_=>0 19|_=>D α|_=>ar K|_=>0 64520|_=>0 64524|_=>s.M.ao b|_=>.q false|_=>6 B|_=>ai.cQ e|_=>.l 207|_=>aI×11e9|_=>b5 α|_=>ar V|_=>.N e|_=>gr P|_=>.N s.M.O.an|_=>ai.fF _ H|_=>.Z 1|_=>by decide+cn|_=>(b.aO.U:K)|_=>b.tb t|_=>D PySem.a0|_=>eb apr S B|_=>.Z 50|_=>0 q|_=>0 4|_=>0 (-2)|_=>8 []|_=>D cm|_=>gU P|_=>G a|_=>(30e7).aL|_=>0 e|_=>ar.G.cF e|_=>I.eC _|_=>h'.ao b|_=>D aI|_=>G 22e6|_=>a.aL 7|_=>137 β|_=>G .cV|_=>ar af|_=>.ss b|_=>2 o|_=>a.ah 12|_=>2 0|_=>0 (-1)|_=>im P|_=>∀p∈ca,p|_=>228 459 0e6|_=>2 fa|_=>86 e|_=>.Z 2|_=>.Z 3|_=>.Z 4|_=>ir _ ?_|_=>λmL=>rfl|_=>182 b|_=>70 b0|_=>68 J|_=>fO ih d|_=>h.ao a|_=>.ag h7|_=>137 α|_=>λe s'=>R (.dI e) s'|_=>2 i|_=>.aa _|_=>hh sh|_=>281 b|_=>238 H|_=>71 v|_=>.l 9|_=>D Internal.S|_=>.aE 2e6|_=>17 v u|_=>o2 P|_=>.Z i|_=>ia i|_=>0 64523|_=>a.aL 3|_=>0 35|_=>dq 10e3 a|_=>bP af|_=>.i 16|_=>.i 64|_=>.i 65|_=>0 7|_=>.l 6|_=>0 app|_=>0 64|_=>137 ey|_=>.l 98|_=>iZ av|_=>65 43 1|_=>α->β->Prop|_=>199 α β|_=>.i 4|_=>nS e|_=>fc k|_=>i0 sm apr B B2 bO|_=>ba h|_=>h'.ao a|_=>b.tb app|_=>.Z O.U|_=>F.dM i|_=>G .dm|_=>.no w|_=>(30e7).ah|_=>19 T|_=>nN e|_=>hH t|_=>dz k bx|_=>j0 x ab|_=>.aB "list"|_=>.aE ⟨_,_,H⟩|_=>b.fI i 0e6|_=>a.ah 7|_=>a.ah 8|_=>37 []|_=>153 α|_=>bX ?_|_=>gk xs|_=>nm 58|_=>ke s|_=>81 b k|_=>0 64522|_=>2 5e2|_=>.Z 11|_=>a.ah 2|_=>0 11|_=>0 36|_=>0 66|_=>.aE H|_=>.i 32|_=>.Z 13|_=>7 v|_=>231 b h|_=>⟨b⟩|_=>F.O[i]?|_=>145 v|_=>bX h|_=>kt t|_=>.aB "BaseException"|_=>.bp true|_=>.aB "Exception"|_=>2 10e2|_=>.bl 36e0 50 []|_=>G (.bJ "object.__new__")|_=>0 apr|_=>b.fI i (.ch dt)|_=>b.fB e (6 dt)|_=>182 b'|_=>G .eG|_=>D apw|_=>bg ?_|_=>b.fB e 0e6|_=>262 1|_=>.N (180 1)|_=>α->β->γ->Prop|_=>.i 3|_=>dU p|_=>.f .bA|_=>I.cz H|_=>{s with a1:=k}|_=>by exact 24e5|_=>7 24e4|_=>(100 b []).U|_=>.ad []|_=>⟨_,H⟩|_=>[aD.U+1<=16777216]|_=>.ag j9|_=>.l 126|_=>44 ?_|_=>(x.aJ:K)|_=>.a4 h|_=>.l 43|_=>(16e2).aL|_=>5 a|_=>R ey|_=>D iO|_=>(26e9).2|_=>gP R|_=>.aB "tuple"|_=>33 132|_=>.aB "bytearray"|_=>λa a h'=>h'|_=>aH.ci P|_=>.aB "bytes"|_=>.cp vs|_=>([]:0e0)|_=>0 (-16)|_=>ba 31e7|_=>aZ ?_|_=>.Z 15|_=>11 r|_=>86 a|_=>234 E|_=>(ba 7e0).1|_=>.az B2 bO|_=>.l 164|_=>λs=>rfl|_=>.bl 26e6 50 []|_=>D.lA 11e7|_=>D.cZ.bn H|_=>0 64526|_=>nV C s.M.O.an|_=>.ag lh|_=>0 32|_=>137 al|_=>181 ?_|_=>283 aI|_=>62 o1|_=>⟨us⟩|_=>ar α|_=>.N sl|_=>.aa u|_=>.l 49|_=>.Z 56|_=>.Z 57|_=>b.m i|_=>128 v|_=>dP bS r|_=>373 b|_=>ef ts aD|_=>x.aL 24|_=>by rw[k9];kernel_rfl|_=>.bp false false|_=>ar.ha.mp e|_=>x.A.hD _|_=>2 b.c1|_=>2 b.c0|_=>KO app|_=>G ab.cY|_=>D (apv×af)|_=>(ba 7e0).2|_=>I.nC _|_=>a.ah 5|_=>.au cO|_=>48 au|_=>76 []|_=>69 [] h'|_=>⟨aP⟩|_=>it.at F k|_=>bH ?_|_=>.N 38|_=>.N it|_=>(1e2).eZ|_=>oc mL|_=>D (K×V)|_=>by rw[h];rfl|_=>∀p∈ob,p|_=>ab.dB 5e5|_=>.bp false|_=>0 64529|_=>2 b.e9|_=>(".0" :am)|_=>.q true|_=>ar (al×al)|_=>G 17e1|_=>(s.M.O.an,[])|_=>nm 100|_=>r.aF f|_=>137 iK|_=>D (I×α)|_=>0 (-17)|_=>70 b'|_=>dP bS r1|_=>(s.M.b6 nU).b6|_=>kY aq|_=>.l 58|_=>.l 93|_=>nm 31|_=>104 e|_=>118 b|_=>404 n|_=>.aX g as|_=>{s with M:=h'}|_=>.l 132|_=>b'.aO.aj bB|_=>ar.k7.mp e|_=>λe=>rfl|_=>KL x.w.bV|_=>D.dS n.aJ|_=>78 2e6|_=>230 2e6|_=>.gZ 3e5|_=>2 30e7|_=>s.M.ao e|_=>s.M.ao c|_=>ar 0e0|_=>.v 17e1|_=>ab.dB n|_=>3 181|_=>.a 207 182|_=>G p.2|_=>V.y i true|_=>I.qk _|_=>.l 139|_=>a.ah 4|_=>0 37|_=>137 δ|_=>8 pG|_=>153 β|_=>69 aC s'.M|_=>.v 6 (65 43 0)|_=>apv->V->Prop|_=>x.A.dY.aj _|_=>I.hZ hL.bi|_=>fn.jp as.U|_=>x.ab.dB id|_=>0 64527|_=>2 8e2|_=>.cu (bT 459) (rX 2e7)|_=>.cu (bT 459) (rX 3e9)|_=>λi=>i|_=>[s.M.O.an]|_=>∃l,x.A.dY=G l|_=>(b9 [v]:b5 2e4)|_=>KW w.bV|_=>jl×apw|_=>0 apt|_=>(apt.U:K)|_=>7 ()|_=>I.rH _|_=>d7 app|_=>6 []|_=>39 bN|_=>48 aD|_=>71 en|_=>7e6==10|_=>x.ab.bt=sc|_=>.aB "bytearray_iterator"|_=>.bJ "Exception.__new__"|_=>(((b.aO.aj bB)).U:K)|_=>x.ab.dB 5e5|_=>by rw[v];rfl|_=>ar PySem.a0|_=>λh=>rfl|_=>ck.ry x.w.bV 4e6|_=>I.ip 9e1|_=>{s with a1:=s.a1+1}|_=>279 (s % 256)|_=>b9 false|_=>(ps.aj nm).fw|_=>fo 7e5|_=>I.fZ q|_=>.aB apq|_=>h'.ao e|_=>D.dS 51|_=>D.dS 62|_=>0 209|_=>33 155|_=>33 162|_=>106 l.U|_=>.N apr|_=>.l 108|_=>.au au|_=>K.rN k|_=>qZ apq|_=>137 md|_=>37 cO|_=>7e6==11|_=>179 bN a6|_=>.aB "StopIteration"|_=>((bP.mk aP).an:K)|_=>0 4294967295|_=>{b with c2:= 0e6}|_=>{b with apr:=1}|_=>D.cZ.mp r|_=>apz.x 7e5|_=>λ_=>rfl|_=>λg=>rfl|_=>.aB "zip"|_=>105 47e0|_=>x.aL 100|_=>dt.aj bB|_=>α->β->γ->δ->Prop|_=>.r (.c 30e9)|_=>m.iT 50e7 l|_=>bT 1213|_=>jt.mp q|_=>h0.ao a|_=>λa p=>(W a p).1|_=>bE S L (G 6)|_=>.aB "type"|_=>∀mL,∀p∈nk mL,p|_=>x.A.hW ab|_=>.bp true false|_=>.aB "enumerate"|_=>.aB "function"|_=>h'.ao s.M.O.an|_=>λh h h'=>h'|_=>n % 4294967296|_=>by rw[h]<;>rfl|_=>s.kH 2e2 "bytearray"|_=>λapp=>rfl|_=>dN ([.y (s.ah 256) true]:0e0) n|_=>{s with M:=h1}|_=>λi=> 14e8|_=>be.cg i.aJ|_=>al.mB.mp h|_=>λmL=>a6|_=>386 4e4 (s1.M.ao a)|_=>A.hD (384 us)|_=>0 64521|_=>0 64528|_=>0 64525|_=>0 b.apr|_=>((k+1:I):K)|_=>.d3 25e0|_=>km C s.M.O.an|_=>0 8e2|_=>0 31e4|_=>2 7e6|_=>6 47e9|_=>182 1e2|_=>319 27e2|_=>386 4e4 18e4|_=>P.jS R _ (.y ..)|_=>2 (x.ah 100)|_=>.aB "dict"|_=>n % 18446744073709551616|_=>((lo.ak 0 (kL us.U):I):K)|_=>λh h q=>q.ak|_=>λl p=>iS l p.1 p.2|_=>D Internal.apq|_=>((b.tb app).U:K)|_=>341 s1.M.O.an|_=>qs ?_ (by size_fits)|_=>{b with apr:=3}|_=>386 14e4 18e4|_=>af.aB "list"|_=>λa a z=>z|_=>23 (yx ..)|_=>am.ph "law"|_=>(ar.p8 ..).mp|_=>(∀p∈ob,p)|_=>ai.tV 11e7|_=>apz.x 28e0|_=>λr=>rfl|_=>λa=>rfl|_=>C.apx.tb s|_=>359 50e3 (.bw #[])|_=>D.eR.mp s|_=>ar.G.cF h|_=>λp=>37e7|_=>D.cZ.mp h|_=>D.cZ.mp q|_=>λi=>37e8|_=>oU P.nP.1|_=>K.jV.mp s|_=>.aB "code"|_=>(⟨w,mP.hW ab,ab,s.os,false⟩:Fx)|_=>((lo.ak 0 (kL (bP.mk b).an):I):K)|_=>by unfold dU;rw[q];simp|_=>by rw[JQ];kernel_rfl|_=>Dq aq (by unfold hH;decide)|_=>sm.ah 4294967296|_=>((b.aO.aj bB).U:K)|_=>.aB "traceback"|_=>λx x h'=>h'|_=>Internal.R α|_=>λx x h=>h|_=>by rw[s];rfl|_=>λh h e=>e|_=>Ov.Ow s₀.M|_=>23 (Ms ..)|_=>C1 (λP d O T=>av) 24e5|_=>{s with a1:=t}|_=>((b.tb x).U:K)|_=>R.lv e λes n q=>by rw[hd]at q;cases q|_=>af.bJ "BaseException.__getattribute__"|_=>qV ⟨λh=>by injection h,λh=>by rw[h]⟩|_=>(match f with| .bk v=>v|_=> .L)|_=>G (.bJ "object.__setattr__")|_=>bM s (by unfold Q3;decide)|_=>.bJ "type.__call__"|_=>l.aj Internal.apq.n|_=>DE ?_ (by intro x;cases x)|_=>λq e=>by rw[42e8,<-e];rfl|_=>("__classdict__" :am)|_=>λx x x h'=>h'|_=>W.to λa p=>?_|_=>K×K×K×K×K×K|_=>R.lv u λapA apA q=>by rw[hd]at q;cases q|_=>R.lv j λes n q=>by rw[hd]at q;cases q|_=>P.aF λa aS v s1 u1 e w r1 b=>?_|_=>r7 λvs q=>by rw[hd]at q;cases q|_=>I.cz (by cases sh<;>kernel_rfl)|_=>("bytearray.__release_buffer__" :fS)|_=>af.bJ "object.__getattribute__"|_=>r7 λvs e=>nomatch h.bi.aV e
section
def nN{α:Type}{a:α}{C:Prop}(e:L=11e3):C:=bM e nofun
def apI{α:Type}{a:α}{C:Prop}(e:11e3=L):C:=bM e nofun
def nF{C:Prop}(e:false=true):C:=al.Oz e
def nG{C:Prop}(e:true=false):C:=al.Oz e
def XT{P:Prop}(h:∀apx:Prop,(P->apx)->apx):P:=h P id
universe e
section
def oA{P:Prop}{Q:Prop}{apx:Prop}(h:P/\Q)(g:P->Q->apx):apx:=360 (g s h)
def oE{α:7e1}{P:20e2}{apx:Prop}(h:∃a:α,P a)(g:∀a:α,P a->apx):apx:=311 (g a h)
def aN{α:7e1}{P:20e2}{Q:20e2}{apx:Prop}(h:∃a:α,P a/\Q a)(g:∀a:α,P a->Q a->apx):apx:=311 (360 (g a s h))
def qf{α:7e1}{β:7e1}{P:17e7}{apx:Prop}(h:∃a:α,∃b:β,P a b)(g:∀a:α,∀b:β,P a b->apx):apx:=366 (g a b h)
def hT{P:Prop}{Q:Prop}{R:Prop}{apx:Prop}(h:P/\Q/\R)(g:P->Q->R->apx):apx:=315 (g x s h)
def sN{α:7e1}{P:Prop}{Q:20e2}{apx:Prop}(h:P/\∃a:α,Q a)(g:P->∀a:α,Q a->apx):apx:=360 (311 (g s a h))
def dV{α:7e1}{P:20e2}{Q:20e2}{R:20e2}{apx:Prop}(h:∃a:α,P a/\Q a/\R a)(g:∀a:α,P a->Q a->R a->apx):apx:=311 (315 (g a x s h))
def gd{α:7e1}{β:7e1}{P:17e7}{Q:17e7}{apx:Prop}(h:∃a:α,∃b:β,P a b/\Q a b)(g:∀a:α,∀b:β,P a b->Q a b->apx):apx:=366 (360 (g a b s h))
def nn{α:7e1}{β:7e1}{γ:7e1}{P:24e1}{apx:Prop}(h:∃a:α,∃b:β,∃c:γ,P a b c)(g:∀a:α,∀b:β,∀c:γ,P a b c->apx):apx:=346 (g a b c h)
def lG{P:Prop}{Q:Prop}{R:Prop}{S:Prop}{apx:Prop}(h:P/\Q/\R/\S)(g:P->Q->R->S->apx):apx:=301 (g x s e h)
def jz{α:7e1}{β:7e1}{P:17e7}{Q:17e7}{R:17e7}{apx:Prop}(h:∃a:α,∃b:β,P a b/\Q a b/\R a b)(g:∀a:α,∀b:β,P a b->Q a b->R a b->apx):apx:=366 (315 (g a b x s h))
def om{α:7e1}{β:7e1}{γ:7e1}{P:24e1}{Q:24e1}{apx:Prop}(h:∃a:α,∃b:β,∃c:γ,P a b c/\Q a b c)(g:∀a:α,∀b:β,∀c:γ,P a b c->Q a b c->apx):apx:=346 (360 (g a b c s h))
def gp{α:7e1}{P:Prop}{Q:Prop}{R:20e2}{S:20e2}{apx:Prop}(h:P/\Q/\∃a:α,R a/\S a)(g:P->Q->∀a:α,R a->S a->apx):apx:=315 (311 (h.ak λe h=>g x s a e h))
def gD{α:7e1}{β:7e1}{P:20e2}{Q:20e2}{R:17e7}{apx:Prop}(h:∃a:α,P a/\Q a/\∃b:β,R a b)(g:∀a:α,P a->Q a->∀b:β,R a b->apx):apx:=311 (315 (h.ak λb h=>g a x s b h))
def sO{α:7e1}{P:20e2}{Q:20e2}{R:20e2}{S:20e2}{apx:Prop}(h:∃a:α,P a/\Q a/\R a/\S a)(g:∀a:α,P a->Q a->R a->S a->apx):apx:=311 (301 (g a x s e h))
def zq{P:Prop}{Q:Prop}{R:Prop}{S:Prop}{apq:Prop}{apx:Prop}(h:P/\Q/\R/\S/\apq)(g:P->Q->R->S->apq->apx):apx:=301 (h.ak λs' h=>g x s e s' h)
def jA{α:7e1}{β:7e1}{P:17e7}{Q:17e7}{R:17e7}{S:17e7}{apx:Prop}(h:∃a:α,∃b:β,P a b/\Q a b/\R a b/\S a b)(g:∀a:α,∀b:β,P a b->Q a b->R a b->S a b->apx):apx:=366 (301 (g a b x s e h))
def uD{α:7e1}{β:7e1}{γ:7e1}{P:24e1}{Q:24e1}{R:24e1}{apx:Prop}(h:∃a:α,∃b:β,∃c:γ,P a b c/\Q a b c/\R a b c)(g:∀a:α,∀b:β,∀c:γ,P a b c->Q a b c->R a b c->apx):apx:=346 (315 (g a b c x s h))
def kX{α:7e1}{β:7e1}{γ:7e1}{P:24e1}{Q:24e1}{R:24e1}{S:24e1}{apx:Prop}(h:∃a:α,∃b:β,∃c:γ,P a b c/\Q a b c/\R a b c/\S a b c)(g:∀a:α,∀b:β,∀c:γ,P a b c->Q a b c->R a b c->S a b c->apx):apx:=346 (301 (g a b c x s e h))
def OB{α:7e1}{β:7e1}{γ:7e1}{δ:7e1}{P:45e9}{Q:45e9}{R:45e9}{apx:Prop}(h:∃a:α,∃b:β,∃c:γ,∃d:δ,P a b c d/\Q a b c d/\R a b c d)(g:∀a:α,∀b:β,∀c:γ,∀d:δ,P a b c d->Q a b c d->R a b c d->apx):apx:=346 (h.ak λd h=>315 (g a b c d x s h))
def qg{α:7e1}{β:7e1}{γ:7e1}{δ:7e1}{P:45e9}{Q:45e9}{R:45e9}{S:45e9}{apx:Prop}(h:∃a:α,∃b:β,∃c:γ,∃d:δ,P a b c d/\Q a b c d/\R a b c d/\S a b c d)(g:∀a:α,∀b:β,∀c:γ,∀d:δ,P a b c d->Q a b c d->R a b c d->S a b c d->apx):apx:=346 (h.ak λd h=>301 (g a b c d x s e h))
def uE{α:7e1}{β:7e1}{P:17e7}{Q:17e7}{R:17e7}{S:17e7}{apq:17e7}{apx:Prop}(h:∃a:α,∃b:β,P a b/\Q a b/\R a b/\S a b/\apq a b)(g:∀a:α,∀b:β,P a b->Q a b->R a b->S a b->apq a b->apx):apx:=366 (301 (h.ak λs' h=>g a b x s e s' h))
def zr{P:Prop}{Q:Prop}{R:Prop}{S:Prop}{apq:Prop}{apA:Prop}{apx:Prop}(h:P/\Q/\R/\S/\apq/\apA)(g:P->Q->R->S->apq->apA->apx):apx:=301 (h.ak λs' h=>h.ak λt' h=>g x s e s' t' h)
def sP{α:7e1}{β:7e1}{γ:7e1}{P:24e1}{Q:24e1}{R:24e1}{S:24e1}{apq:24e1}{apA:24e1}{apx:Prop}(h:∃a:α,∃b:β,∃c:γ,P a b c/\Q a b c/\R a b c/\S a b c/\apq a b c/\apA a b c)(g:∀a:α,∀b:β,∀c:γ,P a b c->Q a b c->R a b c->S a b c->apq a b c->apA a b c->apx):apx:=346 (301 (h.ak λs' h=>h.ak λt' h=>g a b c x s e s' t' h))
universe e
section
open PySem PySem.W PyProof.Rows
set_option backward.match.sparseCases false
def DA{a b:al}(h:a=true)(k:b=true):(a&&b)=true:=by rw[h,k];rfl
def XU:PySem.W.np.OC PySem.Challenge.rw_nm0174_01=true:=by
 delta PySem.W.np.OC;refine(_&&_)=true;show DA ?_ ?_
 ·delta PySem.W.np.tw17960256430627541270 PySem.W.np.tw2436336058641802641 PySem.W.np.tw12908688711261696721;refine(_&&_)=true;repeat' (with_reducible show DA ?_ ?_)
  all_goals as_aux_lemma=>kernel_rfl
 ·repeat' (with_reducible show DA ?_ ?_)
  all_goals as_aux_lemma=>kernel_rfl
def said:PySem.Challenge.rw_nm0174_01.zs=true:=by
 rw[show @PySem.W.OD.zs=PySem.W.np.OC from PySem.W.np.te9446332074065402090];exact XU
universe e
section
open PySem
set_option backward.match.sparseCases true
def zt:fQ->al
 | .bJ id _=>Builtin.dL.wv.hU id
 |_=>false
def Cl(l:D (fQ×dA)):Prop:=∀c∈l,zt c.1=false
def aM{α:Type}(apB:iz)(A:dg)(t:9e4)(Q:14e6)(E:0e5)(s:ae):Prop:=
 ∀Γ p,Γ.In A->zt Γ.dH=false->Cl Γ.uF->b5.wp apB Γ t (λa h s'=>Q a s') (λe h s'=>E e s') p s
def e7(apB:iz)(A:dg)(c:fQ)(R:44e2)(s:ae):Prop:=
 ∀Γ p,Γ.dH=c->Γ.Below A->Cl Γ.uF->wpCode apB Γ R p s
section
variable{α β:Type}{apB:iz}{A:dg}{E:af->ae->Prop}{s:ae}
def aM.of{t:9e4}{Q:14e6}(h:67 t):29 t:=λΓ p e x x=>h Γ p e
def ew{m m':9e4}{Q:14e6}(h:m=m')(apz:29 m'):29 m:=h▸apz
def qh{m m':9e4}{Q:14e6}(h:m=m')(apz:67 m'):67 m:=h▸apz
def bH{a:α}{Q:14e6}(h:Q a s):29 (b9 a):=λx x x x x=>h
def XV{e:af}{Q:14e6}(h:E e s):29 (throw e:9e4):=λx x x x x=>h
def eW{t:9e4}{Q x:14e6}{b:0e5}(h:29 t)
  (hQ:∀a s,Q a s->x a s) (hE:∀e s,E e s->b e s):108 t x b s:=
 λΓ p m hd r=>b5.zu apB Γ t (λa k s=>hQ a s) (λe k s=>hE e s) p s (h Γ p m hd r)
def aZ{m:9e4}{f:α->b5 β}{Q:12e2}(h:108 m (λa s'=>108 (f a) Q E s') E s):
  29 (m>>=f):=λΓ p b hd e=>by
 rw[b5.wp_bind'];exact b5.zu apB Γ m (λa r s' h'=>h' Γ r b hd e) 56e4 p s (h Γ p b hd e)
def eP{m:9e4}{f:α->b5 β}{Q:12e2}(h:aY apB A m (λa s'=>108 (f a) Q E s') E s):
  29 (m>>=f):=164 h
def pR(apB:iz)(A:dg)(k:α->b5 β)(Q:12e2)(E:0e5):14e6:=λa s'=>ku->108 (k a) Q E s'
def fe{m:9e4}{f:α->b5 β}{Q:12e2}(h:aY apB A m (pR apB A f Q E) E s):29 (m>>=f):=147 h (λx x h=>h d2) 54e5
def me{c:Prop}[rg c]{t e:9e4}{Q:14e6}(h:¬c)(apz:ku->ku->29 e):29 (ff c t e):=ew (d6 h) (apz ⟨⟩ ⟨⟩)
def thR{c:Prop}[rg c]{t e:9e4}{Q:14e6}(h:c)(apz:29 t):29 (ff c t e):=ew (eX h) apz
def apJ(apB:iz)(A:dg)(k:α->b5 β)(Q:12e2)(E:0e5):14e6:=λa s'=>ku->aY apB A (k a) Q E s'
def cL{m:9e4}{f:α->b5 β}{Q:12e2}(h:aY apB A m (apJ apB A f Q E) E s):67 (m>>=f):=bg (hV h (λx x h=>h d2) 54e5)
def sQ{c:Prop}[rg c]{t e:9e4}{Q:14e6}(h:¬c)(apz:ku->ku->67 e):67 (ff c t e):=qh (d6 h) (apz ⟨⟩ ⟨⟩)
def pb{c:Prop}[rg c]{t e:9e4}{Q:14e6}(h:c)(apz:67 t):67 (ff c t e):=qh (eX h) apz
def iJ{m:9e4}{f:α->b5 β}{Q:12e2}(h:108 m (pR apB A f Q E) E s):29 (m>>=f):=aZ (eW h (λx x h=>h d2) 54e5)
def uG{c:Prop}[rg c]{t e:9e4}{Q:14e6}(h:¬c)(apz:29 e):29 (ff c t e):=ew (d6 h) apz
def kY{c:Prop}[rg c]{t e:9e4}{Q:14e6}(h:¬c)(apz:67 e):67 (ff c t e):=qh (d6 h) apz
def ww{m:9e4}{k:af->b5 ey}{Q:14e6}
  (h:108 m Q (λe s'=>108 (k e) (λx r=>E e r) E s') s):29 (m.qi k):=λΓ p b hd a=>by
 rw[b5.wp_onRaise];exact b5.zu apB Γ m 56e4 (λe n s' h'=>h' Γ n b hd a) p s (h Γ p b hd a)
def wx{m:9e4}{Q:Except af α->ae->Prop}(h:108 m (λa=>Q (.Y a)) (λe=>Q (.dI e)) s):
  29 m.DB:=λΓ p b hd x=>by rw[b5.wp_attempt];exact h Γ p b hd x
def dh{vs:2e4}{m:9e4}{Q:14e6}(h:29 m):29 (gq vs m):=
 λΓ p e hd x=>by rw[b5.wp_holding];exact h Γ p e hd x
def XW{vs:2e4}{m:9e4}{Q:14e6}(h:29 m):29 (m.bS vs):=
 λΓ p e hd x=>by rw[b5.wp_keep];exact h Γ p e hd x
def eL{aU:dA}{Q:17e3}(h:Q () s):29 (kw aU):=λx x x x x=>h
def Cl.sR{Γ:Ctx}{p:dA}(hd:zt Γ.dH=false)(s:Cl Γ.uF):Cl ((Γ.dH,p)::Γ.uF):=by
 intro c x;rcases D.eR.mp x with H|h
 ·exact hd
 ·exact s c h
def DC{c:fQ}{h:12e4}{Q:34e5}
  (hc:e7 apB (A.mark h) c (367 f (E e s')) s) (DD:h≠G byPass):
  29 (dj c h):=
 λΓ p a hd x=>by rw[b5.wp_run];exact hc _ p H (a.sR c h p DD) (Cl.sR hd x)
def XX{c:fQ}{Q:0e5}
  (hc:e7 apB A c (414 v (E e s')) s):
  29 (runValue c):=λΓ p a hd h=>by rw[b5.wp_runValue];exact hc _ p H (a.sR c L p (by intro x;cases x)) (Cl.sR hd h)
def rh{f:af}{aU:2e4}{h:283 af}{Q:0e5}
  (hc:e7 apB A (.aX f ⟨aU,h⟩) (414 v (E e s')) s):
  29 (aX f aU h):=XX hc
def mf{c:fQ}{R:44e2}(hd:zt c=false)
  (h:aM apB (A.hD c) (apB.g6 c) (λeg s'=>match eg with| .kx f=>218 f s'| .mg x=>x.sS=true/\e7 apB A x R s')
   (14e7) s):e7 apB A c R s:=λΓ p a k b=>by
 rw[wpCode_iff_wp,a];show b5.zu apB Γ _ (λeg m s' h'=>?_) (λr r r h'=>h') p s (h Γ p (a▸k.in) (a▸hd) b);cases eg with
 |done f=>exact h'
 |mg x=>exact⟨h'.1,h'.2 (Γ.goto x) m H (k.goto x) b⟩
def zv{c:fQ}{R x:44e2}(h:e7 apB A c R s)(a:∀r s,R r s->x r s):e7 apB A c x s:=
 λΓ p k b e=>wpCode_mono a (h Γ p k b e)
def zw{ab:ez}{m:9e4}{Q:14e6}(h:108 m Q (j4 apB A ab E) s):29 (m.qi λx=>do mR x ab;zx x):=
 ww (eW h (λa a q=>q) λa a b=>aM.of (bg (hV b (λa a e=>wpAny_theTreesLotGoes e) λa a e=>e)))
def DE{ab:ez}{c:fQ}{h:12e4}{Q:34e5}
  (hc:e7 apB (A.mark h) c (367 f (zy apB A ab E e s')) s) (DD:h≠G byPass):
  29 (zA c ab h):=by
 unfold zA;exact ww (eW (DC hc DD) (λx x q=>q) λx x h=>aM.of h)
def wy(A:dg):A.mark L=A:=by
 cases A;rfl
universe e
section
variable{bc:gR}{w:eA}{A:dg}{E:af->ae->Prop}{s:ae}{R:md->ae->Prop}
def OE{mS:11e1}{ab:ez}
  (h:134 A (mh mS ab) (λf s'=>218 f s') (j4 6e2 A ab 14e7) s):95 A (.DF mS ab) R s:=by
 show mf H ?_;refine aM _ _ (do return ky.kx (<-408 (mh mS ab))) _ _ s;exact aZ (zw (eW h (λf s' h'=>bH h') 26e8))
def OF{cX:11e1}{ab:ez}
  (h:aM 6e2 (A.hW ab) (mh cX ab) (λf s'=>332 55e6 s')
   (λe s'=>272 w (A.hW ab) (rj ab e) (λa x=>R (.dI e) x) (λb x=>R (.dI b) x) s') s):
  95 A (.mi cX ab) R s:=by
 show mf H ?_;refine aM _ (A.hW ab) (do wz;match<-(mh cX ab).qi (rj ab)with| .bk v=>bk v|_=>bk .L) _ _ s;show 164 (OG (aZ (ww (eW h (λf s' h'=>?_) λa a h'=>aM.of h'))));cases f<;>exact bH h'
def OH{a:aI}{r:Args}{o:aA}{fd:jB}{cX:11e1}(i:A.g7<DG)
  (ho:4e4=0e4)
  (DH:o.bf= .mi fd) (wB:fd.bt.zB=false) (DI:fd.bt.zC=false) (DJ:fd.cX= .mS cX) (qj:s.M.zD fd.dH fd.pc)
  (h:aY (bh bc w) A.fg (DL fd r) (λp k=>
   aY (6e2) A.fg (zE fd.bt fd.g8 fd.rk p (fd.pc++ ".<locals>.") 11e3 fd.dH L fd.jC)
    (λab b=>b.M.OI/\95 A (.mi cX ab) R b) (14e7) k) 14e7 s):
  95 A (.aX 2e2 r) R s:=by
 show mf H ?_;refine aM _ A.fg (sT 2e2 r) _ _ s;dsimp-fs only[sT];show eP (rm ho ?_);(show qg qj λc oc vs d v q l j=>?_;try clear qj);simp only[DH,XY,wB,DI,DJ,v];rw[v]at h;show eP (m:=ro (.N c) 1) (hF q l j 29e2);exact 147 h (λp k u=>147 u (λab b n=>eP (XZ n.1 i
  (bH (i3.nq H n.2)))) 54e3) 54e3
def zF{a:a0}{cX:11e1}{ab:ez}
  (h:aM 6e2 A (sU a ab (77 a)) (λb n=>
    if b then 134 A (mh cX ab) (λf p=>match f with
      | .bA| .zG=>95 A (.DM a cX [] ab) R p
      | .brk=>218 .bA p
      | .bk v=>332 v p) (j4 6e2 A ab 14e7) n
    else 218 .bA n)
    (j4 6e2 A ab 14e7) s):95 A (.DM a cX [] ab) R s:=by
 show mf H ?_;refine aM _ A (408 (X0 a cX [] ab)) _ _ s;show zw ?_;dsimp-fs only[X0];show aZ (eW h (λb n k=>?_) λm m h'=>h');cases b with
 |false=>
  simp-fs only[al.zH,zI]at k⊢;exact 164 (zJ (bH k))
 |true=>
  simp-fs only[wC]at k⊢;show aZ (eW k (λf p r=>?_) λm m h'=>h');cases f with
  |next=>exact bH (238 r)
  |zG=>exact bH (238 r)
  |brk=>exact bH r
  |bk v=>exact bH r
universe e
set_option backward.match.sparseCases false
section
variable{α:Type}(apB:iz)(A:dg)
abbrev Rn(α:Type):=D aA->ae->6e1×9e4×ae
def rn(t:9e4):Rn α:=b5.pd (wD:=λx=>Rn α)
 (λa x s=>([],.b9 a,s)) (λe x s=>([],.raise e,s)) (λw x s=>([],.X1 w,s)) (λe x s=>([],.finish e,s))
 (λx x ih=>ih ()) (λx x ih=>ih ())
 (λa p k ih apt s=>421 ([],.zK a p k,s) o apt s ((4e4=0e4)::r.1,r.2))
 (λa p f k ih apt s=>421 ([],.eM a p f k,s) () apt {s with M:=s.M.eM a f} ((4e4=0e4)::r.1,r.2))
 (λo k ih apt s=>ih s.M.O.an apt (280 o))
 (λa k ih apt s=>421 ([],.DN a k,s) 0e4 apt s ((4e4=0e4)::r.1,r.2))
 (λx x ih=>ih ()) (λa k x x s=>([],.register a k,s))
 (λk ih apt s=>ih s.a1 apt 42e3) (λk ih=>ih ⟨apB.bc,apB.w.bV⟩)
 (λiL n k x x s=>([],.choose iL n k,s)) (λq l k x x s=>([],.os q l k,s)) (λc h g l k x x s=>([],.aX c h g l k,s))
 (λd3 k ih apt s=>al.pd (ih A.e8 apt s) ([],.e8 true k,s) d3)
 (λc k x x s=>([],.newGen c k,s)) (λg k x x s=>([],.genState g k,s)) (λg r l k x x s=>([],.resume g r l k,s)) (λv g l k x x s=>([],.uH v g l k,s))
 (λk x x s=>([],.ik k,s)) (λc k x x s=>([],.fork c k,s)) (λk ih=>ih 0) (λa t d l k x x s=>([],.await a t d l k,s)) t
def DO{p:Prop}{l:6e1}(h:∀q∈p::l,q):p/\∀q∈l,q:=⟨h _ (.rp _),λq m=>h q (.mj _ m)⟩
def OJ{β α:Type}{apB:iz}{Γ:Ctx}{k:β->9e4}{x app:β}{Q:α->dA->ae->Prop}{E:af->dA->ae->Prop}{p:dA}{s:ae}(e:x=app)(h:b5.wp apB Γ (k app) Q E p s):b5.wp apB Γ (k x) Q E p s:=e▸h
def X2(Q:14e6)(E:0e5)(Γ:Ctx)(t:9e4):Prop:=∀(apt:D aA) (s:ae) (p:dA),(∀q∈(rn apB A t apt s).1,q)->(∀p,b5.wp apB Γ (rn apB A t apt s).2.1 (λa h s'=>Q a s') (λe h s'=>E e s') p (rn apB A t apt s).2.2)->b5.wp apB Γ t (λa h s'=>Q a s') (λe h s'=>E e s') p s
def X3{Q:14e6}{E:0e5}{Γ:Ctx}(b:Γ.e8=A.e8)(t:9e4):X2 apB A Q E Γ t:=by
 induction t with
 |pe _ _ ih=>exact ih ()
 | «at» _ _ ih=>exact λapt s p=>ih () apt s _
 |zK a _ k ih=>exact λapt s p=>match apt with
  | []=>λe h=>h p
  |o::apt=>λx h=>have x:=DO (l:=(rn apB A (k o) apt s).1) x;⟨o,x.1,ih o apt s p x.2 h⟩
 |eM a _ f k ih=>exact λapt s p=>match apt with
  | []=>λe h=>h p
  |o::apt=>λx h=>have x:=DO (l:=(rn apB A (k ()) apt {s with M:=s.M.eM a f}).1) x;⟨ar.mT.bn ⟨o,x.1⟩,ih () apt _ p x.2 h⟩
 |alloc o k ih=>exact λapt s p=>ih _ apt _ p
 |DN a k ih=>exact λapt s p=>match apt with
  | []=>λe h=>h p
  |o::apt=>λx h=>have x:=DO (l:=(rn apB A (k 0e4) apt s).1) x;OJ (k:=k) x.1 (ih 0e4 apt s p x.2 h)
 |wz _ _ ih=>exact ih ()
 |fk k ih=>exact λapt s p=>ih _ apt _ p
 |ask k ih=>exact ih _
 |e8 d3 k ih=>
  cases d3 with
  |false=>exact λapt s p x h=>OJ (k:=k) b (ih _ apt s p x h)
  |true=>exact λe e p e h=>h p
 |OK k ih=>exact ih 0
 |_=>exact λe e p e h=>h p
universe e
section
variable{α:Type}{apB:iz}{A:dg}{Q:α->ae->Prop}{E:af->ae->Prop}{s s':ae}{t t':b5 α}{ps:D Prop}
def X4(apt:D aA)(e:rn apB A t apt s=(ps,t',s'))(a:∀q∈ps,q)(h:aY apB A t' Q E s'):67 t:=
 λΓ p x=>X3 apB A x.1 t apt s p (by rw[e];exact a) λp=>by rw[e];exact h Γ p x
def sV(apt:D aA)(e:rn apB A t apt s=(ps,.b9 v,s'))(x:∀q∈ps,q)(h:Q v s'):67 t:=X4 apt e x 22e3
universe e
universe e
section
open PySem PySem.W PyProof.Rows
set_option backward.match.sparseCases true
def jD:dR->I->ar aA
 | [],_=>L
 |p::l,a=>141 p.1 a 37e7 (jD l a)
def wE{i j:I}{o o':aA}{l:dR}(h:jD ((i,o)::l) j=G o'):(j=i/\o'=o)\/(j≠i/\jD l j=G o'):=by
 have h:141 i j 0e4 (jD l j)=G o':=h;cases e:I.bY i j with
 |true=>rw[e]at h;exact .a4 ⟨(I.fZ e).bi,(52e7).bi⟩
 |false=>rw[e]at h;exact .aE ⟨λq=>I.ne_of_beq_eq_false e q.bi,h⟩
def DP{a:I}{o:aA}{l:dR}(h:jD l a=0e4):(a,o)∈l:=by
 induction l with
 |aR=>cases h
 |aQ p l ih=>
  rcases wE h with⟨H,H⟩|⟨_,h⟩
  ·exact .rp _
  ·exact .mj _ (ih h)
structure Sp where
 kt:dR
 n:I
 tk:I
structure rq(S:Sp)(s:ae):Prop where
 an:s.M.O.an=S.n
 a1:s.a1=S.tk
 jE:∀a o,jD S.kt a=G o->s.M.ao a=G o
structure Kept(S:Sp)(s s':ae):Prop where
 dD:s'.dD=s.dD
 on:s'.on=s.on
 os:s'.os=s.os
 sW:s'.M.sW=s.M.sW
 bS:∀a o,s.M.ao a=G o->jD S.kt a=L->s'.M.ao a=G o
def sX(g6:fQ->b5 ky)(F:zL)(S:Sp):jF->ar (Sp×jF)
 |⟨s,dH,aU,ik⟩=>match s with
  | .b9 (.mg c)=>match ik with
   | .bk k h g l cd p il::aD=>G (S,⟨g6 c,c,aU,.bk k h g l cd p (keptBy dH c l il)::aD⟩)
   |_=>L
  | .b9 (.kx f)=>match ik with
   | .bk k _ _ _ c p _::aD=>G (S,⟨k (.Y f),c,p,aD⟩)
   |_=>L
  | .raise e=>match ik with
   | .bk k _ _ _ c p _::aD=>G (S,⟨k (.dI e),c,p,aD⟩)
   |_=>L
  | .pe _ k=>G (S,⟨k (),dH,aU,ik⟩)
  | .at p k=>G (S,⟨k (),dH,p,ik⟩)
  | .wz _ k=>G (S,⟨k (),dH,aU,ik⟩)
  | .ask k=>G (S,⟨k F,dH,aU,ik⟩)
  | .zK a _ k=>(jD S.kt a).aj λo=>(S,⟨k o,dH,aU,ik⟩)
  | .DN a k=>(jD S.kt a).aj λo=>(S,⟨k 0e4,dH,aU,ik⟩)
  | .eM a _ f k=>(jD S.kt a).cr λo=>cC (f o).DQ L (G (⟨(a,f o)::S.kt,S.n,S.tk⟩,⟨k (),dH,aU,ik⟩))
  | .alloc o k=>cC o.DQ L (G (⟨(S.n,o)::S.kt,S.n+1,S.tk⟩,⟨k S.n,dH,aU,ik⟩))
  | .fk k=>G (⟨S.kt,S.n,S.tk+1⟩,⟨k S.tk,dH,aU,ik⟩)
  | .aX c h g l k=>
   G (S,⟨g6 c,c,aU,.bk k h g l dH aU (match c,dH with
    | .bJ _ a,_=>unmarked a.refs
    | .aX f a,.bJ .. | .aX f a,.aX .. =>unmarked (if l.hU borrowed then a.refs else f::a.refs)
    |_,_=>[])::ik⟩)
  | .e8 d3 k=>match d3 with
   |false=>G (S,⟨k (topHandled ik),dH,aU,ik⟩)
   |true=>L
  | .ik k=>G (S,⟨k ((dH,aU)::ik.aj Frame.where_),dH,aU,ik⟩)
  | .OK k=>G (S,⟨k 0,dH,aU,ik⟩)
  |_=>L
def OA{α:Type}(o:29e6)(P:20e2):Prop:=match o with
 |G a=>P a
 |L=>ku
structure nr(S S':Sp)(s s':ae):Prop where
 N:rq S' s'
 il:Kept S s s'
 hY:∀a o,jD S'.kt a=G o->jD S.kt a≠L\/s.M.O.an<=a
 grow:s.M.O.an<=s'.M.O.an
def nr.fE{S:Sp}{s:ae}(R:rq S s):nr S S s s:=⟨R,⟨H,H,H,H,λh h e h=>e⟩,λa o e=> .a4 (by rw[e];simp),11e7⟩
def nr.aV{S h x:Sp}{s b p:ae}(A:nr S h s b)(B:nr h x b p):nr S x s p:=by
 show⟨B.N,⟨B.il.dD.aV A.il.dD,B.il.on.aV A.il.on,B.il.os.aV A.il.os,B.il.sW.aV A.il.sW,λa o e r=>?_⟩,λa o e=>?_,I.dW A.grow B.grow⟩
 ·show B.il.bS a o (A.il.bS a o e r) ?_;cases q:jD h.kt a with
  |L=>rfl
  |G o'=>exact(A.hY a o' q).ak (bM r) λz=>31 9e1 z
 ·rcases B.hY a o e with z|z
  ·cases q:jD h.kt a with
   |L=>exact bM q z
   |G o'=>exact A.hY a o' q
  ·exact .aE (I.dW A.grow z)
def SS(g6:fQ->b5 ky)(p:gR)(w:eA)(S:Sp)(s:ae)(t:jF)(r:Sp×jF):Prop:=∃s',oo g6 p w s t= .go s' r.2/\nr S r.1 s s'
def SS.fE{g6:fQ->b5 ky}{p:gR}{w:eA}{S:Sp}{s:ae}{t x:jF}(R:rq S s)(h:oo g6 p w s t= .go s x):SS g6 p w S s t (S,x):=⟨s,h,.fE R⟩
def OA.aj{α β:Type}{o:29e6}{f:α->β}{P:38e5}(h:∀a,o=11e3->P (f a)):OA (o.aj f) P:=by
 cases o with
 |L=>trivial
 |G a=>exact h a H
def OA.cr{α β:Type}{o:29e6}{f:α->ar β}{P:38e5}(h:∀a,o=11e3->OA (f a) P):OA (o.cr f) P:=by
 cases o with
 |L=>trivial
 |G a=>exact h a H
def OA.cC{β:Type}{b:al}{r:β}{P:38e5}(h:b=false->P r):OA (cC b L (G r)) P:=by
 cases b with
 |true=>trivial
 |false=>exact h H
def OL{g6:fQ->b5 ky}{p:gR}{w:eA}{S:Sp}{t:jF}{s:ae}(R:rq S s):OA (sX g6 ⟨p,w.bV⟩ S t) (SS g6 p w S s t):=by
 obtain(⟨i,dH,aU,ik⟩):=t;cases i with
 |b9 f=>
  cases f with
  |mg c=>
   cases ik with
   |aR=>trivial
   |aQ fr aD=>
    cases fr with
    |gen=>trivial
    |bk k hd g l cd v il=>exact .fE R step_again
  |done f=>
   cases ik with
   |aR=>trivial
   |aQ fr aD=>
    cases fr with
    |gen=>trivial
    |bk k hd g l cd v il=>exact .fE R H
 |raise e=>
  cases ik with
  |aR=>trivial
  |aQ fr aD=>
   cases fr with
   |gen=>trivial
   |bk k hd g l cd v il=>exact .fE R H
 |pe tag k=>exact .fE R H
 | «at» q k=>exact .fE R H
 |wz l k=>exact .fE R H
 |ask k=>exact .fE R H
 |ik k=>exact .fE R H
 |OK k=>exact .fE R H
 |aX c hd g l k=>exact .fE R H
 |e8 d3 k=>
  cases d3 with
  |true=>trivial
  |false=>exact .fE R H
 |zK a q k=>exact OA.aj λo e=> .fE R (by dsimp only[oo];rw[R.jE a o e])
 |DN a k=>exact OA.aj λo e=> .fE R (by dsimp only[oo];rw[R.jE a o e])
 |fk k=>
  obtain(⟨app,g,d,tk,os⟩):=s;cases R.a1;exact⟨_,H,⟨R.an,H,R.jE⟩,⟨H,H,H,H,λm m e m=>e⟩,(nr.fE R).hY,11e7⟩
 |eM a q f k=>
  show OA.cr λo e=>OA.cC λx=>?_;have n:4e4=0e4:=R.jE a o e;have hs:166 a (s.M.eM a f):=ai.fy.eM ..;have j:(s.M.eM a f).ao a=G (f o):=by first|exact ai.kz f n x|exact ai.kz _ n x
  show⟨{s with M:=s.M.eM a f},by simp only[oo,n,ar.isSome_some,wC],⟨hs.1.aV R.an,R.a1,λb o' h=>?_⟩,⟨H,H,H,H,λb o' h u=>(hs.2 b λq=>by rw[q,e]at u;cases u).aV h⟩,λb o' h=>?_,I.hZ hs.1.bi⟩
  ·rcases wE h with⟨H,H⟩|⟨r,h⟩
   ·exact j
   ·exact(hs.2 b r).aV (R.jE b o' h)
  ·rcases wE h with⟨H,H⟩|⟨r,h⟩
   ·exact .a4 λq=>nN (q.bi.aV e)
   ·exact(nr.fE R).hY _ _ h
 |alloc o k=>
  show OA.cC λx=>?_;have hz:s.M.O.an=S.n:=R.an;show⟨(280 o),by simp only[oo,hz],⟨by refine(s.M.b6 o).O.an=_;rw[ai.iM,hz],R.a1,λb o' h=>?_⟩,⟨H,H,H,H,λb o' h m=>ai.eo _ h⟩,λb o' h=>?_,by refine _<=(s.M.b6 o).O.an;rw[ai.iM];exact 37e9⟩
  ·rcases wE h with⟨H,H⟩|⟨r,h⟩
   ·rw[<-hz];exact ai.fF _ x
   ·exact 104 (R.jE b o' h)
  ·rcases wE h with⟨H,H⟩|⟨r,h⟩
   ·exact .aE (I.hZ hz)
   ·exact(nr.fE R).hY _ _ h
 |_=>trivial
def sY(g6:fQ->b5 ky)(s:jF->al)(F:zL):I->Sp->jF->ar (iK×Sp×fQ×dA)
 |0,_,_=>L
 |n+1,S,t=>match endAt 1 t with
  |G f=>G (f,S,t.dH,t.aU)
  |L=>match s t with
   |false=>L
   |true=>match sX g6 F S t with
    |G r=>sY g6 s F n r.1 r.2
    |L=>L
def X5(g6:fQ->b5 ky)(s:jF->al)(F:zL)(n:I)(S:Sp)(t:jF):sY g6 s F (n+1) S t=(endAt 1 t).ak (cC (s t) ((sX g6 F S t).cr λr=>sY g6 s F n r.1 r.2) L) λf=>G (f,S,t.dH,t.aU):=by
 refine sY g6 s F (n+1) S t=_;kernel_rfl
def OM{tb:fS->ar Builtin}{p:gR}{w:eA}{x:I}{a:12e4}{n:I}:∀{S e:Sp} {t:jF} {s:ae} {f:iK} {c:fQ} {q:dA},
  sY (rr tb) (zM x a) ⟨p,w.bV⟩ n S t=G (f,e,c,q)->rq S s->
  ∃s',DR tb p w x a 1 n s t=G (f,s',c,q)/\nr S e s s':=by
 induction n with
 |i4=>exact λh i=>nN h
 |hG n v=>
  intro S e t s f c q h R;rw[X5]at h;unfold DR;cases k:endAt 1 t with
  |G g=>rw[k]at h;cases h;exact⟨s,H,.fE R⟩
  |L=>
   rw[k]at h;cases b:zM x a t with
   |false=>rw[b]at h;cases h
   |true=>
    rw[b]at h;have z:=OL (g6:=rr tb) (p:=p) (w:=w) (t:=t) R;cases hs:sX (rr tb) ⟨p,w.bV⟩ S t with
    |L=>rw[hs]at h;cases h
    |G r=>
     rw[hs]at h z;(show aN z λu e1 A=>?_;try clear z);show aN (v h A.N) λm e2 B=>?_;exact⟨m,by dsimp only;rw[e1];exact e2,A.aV B⟩
set_option backward.match.sparseCases false
abbrev pw:gR:=PySem.Challenge.pw_nm0174_01
def eh(i:I):cm:=(pw.rt.cX[i]?).ge (.uI nt)
def X6:cm->11e1
 | .ClassDef _ _ _ b _ _ _ _ _ _ _=>b
 |_=>[]
def dk(i j:I):cm:=((X6 (eh i))[j]?).ge (.uI nt)
def X7:cm->am
 | .DS n _ _ _ _ _ _ _ _ _=>n
 |_=>nt
def DT:cm->X8
 | .DS _ a _ _ _ _ _ _ _ _=>a
 |_=>nt
def uJ:cm->11e1
 | .DS _ _ b _ _ _ _ _ _ _=>b
 |_=>[]
def DU:cm->cD
 | .DS _ _ _ _ _ _ s _ _ _=>s
 |_=>nt
def zN(s:cm)(q:am)(h apK cd:af):jB:=
 {gf:=X7 s,pc:=q,bV:=DT s,cX:= .mS (uJ s),bt:=DU s,g8:=ON,rk:=[],zO:=h,DV:= .L,doc:= .L,pyModule:=apK,annotations:=L,dH:=cd,closureTuple:= .L,jC:=mU}
def zP(i k:I):11e1:=(pw.rt.cX.fh i).fG k
def uK:ez:={bt:=pw.rt.bt,cY:=ON,g8:=ON,b3:=[],dH:= .N 13,ec:=G 14}
def cT:fQ:= .cX (zQ pw) uK
def sZ:dA:=⟨0,0,0,0⟩
noncomputable def dn:fQ->b5 PySem.ky:=PySem.W.np.tw11892475500146522536 PySem.W.np.tw14364793385576792824
noncomputable def wF:jF->al:=PySem.W.np.tw6613529449190102663 11 (47 6)
structure fH where
 s:I
 k:I
 apC:I
 n0:I
 s3:I
 p0:dA
 s4:D I
 n1:I
 iA:I
 p1:dA
def DW(apu:dR)(s4:D I):dR:=apu.oq λp=>s4.hU p.1
noncomputable def wG(g:fH)(w:eA)(apu:dR):ar (iK×Sp×fQ×dA):=
 sY dn wF ⟨pw,w.bV⟩ g.apC ⟨DW apu g.s4,g.n0,g.s3⟩ (piecesOf (zP g.s g.k) uK cT g.p0 [uL sZ])
def zR(as:D I)(r:ar (iK×Sp×fQ×dA)):ar (iK×I×I×fQ×dA×D (ar aA)):=
 r.aj λx=>(x.1,x.2.1.n,x.2.1.tk,x.2.2.1,x.2.2.2,as.aj (jD x.2.1.kt))
def S0:am:= "~<module>"
def S1:am:= "~/claim/cut.py"
def cb(A B:am)(t u:I)(apt a:K)(r:I):aA:=(287 #[.ag A t,.ag B (t+1),120 (t+2),3 apt,3 a,1e4,1e4,3 3,.N r,22e6,37e5,.N (r+1),.L,.N (r+2),.N (r+3),.N (r+4),3 u,3 apt,120 (u+1)])
def b4(s:cm)(q:am)(h:af)(A:am)(t r:I):aA:=(314 47e2 (.mi (zN s q h (.ag A t) (.N r))))
def de(P:ay)(s:am)(t:I)(v:af):iO:=⟨ck.ry P s,.ag s t,v⟩
def S2:am:= "~type.__subclasses__.Exception.0"
def S3:am:= "~type.__subclasses__.Exception.n"
def S4:am:= "~wasmcore.faults"
def S5:am:= "~__init__"
def S6:am:= "~WasmFault.__init__"
def S7:am:= "~__module__"
def S8:am:= "~__firstlineno__"
def S9:am:= "~__static_attributes__"
def lH:am:= "~__weakref__"
def ji:am:= "~__doc__"
def i5:am:= "~WasmFault"
def ql:am:= "~Trap"
def qm:am:= "~Exhausted"
def nu:am:= "~wasmcore.arith"
def qn:am:= "~Misused"
def zS:am:= "~unsigned"
def zT:am:= "~signed"
def zU:am:= "~widened"
def zV:am:= "~add"
def zW:am:= "~place_in"
def zX:am:= "~narrow_of"
def zY:am:= "~is_unary"
def rz:am:= "~wasmcore.kinds"
def zZ:am:= "~reckon2"
def wH:am:= "~wasmcore.codes"
def OO:am:= "~Sizes.__init__"
def ml:am:= "~__dict__"
def wI:am:= "~Sizes"
def z0:am:= "~is_ref"
def S31:am:= "~bits_of"
def S32:am:= "~default_value"
def eT:am:= "~wasmcore.store"
def S34:am:= "~is_block"
def S35:am:= "~matches"
def S36:am:= "~number_of"
def OP:am:= "~wasmcore.octets"
def S38:am:= "~octets_of"
def S39:am:= "~want_within"
def S40:am:= "~does_fit"
def S41:am:= "~do_fit"
def S42:am:= "~grown"
def OQ:am:= "~Memory.__init__"
def S44:am:= "~size"
def OR:am:= "~Memory.size"
def S46:am:= "~grow"
def OS:am:= "~Memory.grow"
def S48:am:= "~want"
def OT:am:= "~Memory.want"
def OU:am:= "~load"
def OV:am:= "~Memory.load"
def OW:am:= "~store"
def OX:am:= "~Memory.store"
def OY:am:= "~write"
def OZ:am:= "~Memory.write"
def S56:am:= "~fill"
def O0:am:= "~Memory.fill"
def S58:am:= "~copy"
def O1:am:= "~Memory.copy"
def S60:am:= "~init"
def O2:am:= "~Memory.init"
def X9:am:= "~kind"
def Ya:am:= "~read"
def s7:am:= "~plain"
def wJ:am:= "~Memory"
def O3:am:= "~Table.__init__"
def O4:am:= "~Table.size"
def O5:am:= "~Table.want"
def DX:am:= "~get"
def O6:am:= "~Table.get"
def DY:am:= "~put"
def O7:am:= "~Table.put"
def O8:am:= "~Table.grow"
def O9:am:= "~Table.fill"
def Pa:am:= "~Table.copy"
def Pb:am:= "~Table.init"
def Yb:am:= "~table_kind"
def wK:am:= "~Table"
def Pc:am:= "~Cell.__init__"
def Yc:am:= "~global_kind"
def wL:am:= "~Cell"
def Pd:am:= "~WasmFunc.__init__"
def S83:am:= "~is_host"
def Pe:am:= "~WasmFunc.is_host"
def wM:am:= "~WasmFunc"
def Pf:am:= "~HostFunc.__init__"
def Pg:am:= "~HostFunc.is_host"
def Ph:am:= "~run"
def S89:am:= "~HostFunc.run"
def wN:am:= "~HostFunc"
def S91:am:= "~Instance.__init__"
def S92:am:= "~drop_elem"
def S93:am:= "~Instance.drop_elem"
def S94:am:= "~drop_data"
def S95:am:= "~Instance.drop_data"
def Yd:am:= "~addresses"
def Ye:am:= "~address"
def Yf:am:= "~index_of"
def Yg:am:= "~exported"
def wO:am:= "~Instance"
def gg:am:= "~wasmcore.core"
def aaa:am:= "~CoreInstance.__init__"
def wP:am:= "~CoreInstance"
def aab:am:= "~CoreStore.__init__"
def wQ:am:= "~CoreStore"
def aac:am:= "~Label.__init__"
def wR:am:= "~Label"
def aad:am:= "~Frame.__init__"
def z1:am:= "~is_done"
def aae:am:= "~Frame.is_done"
def wS:am:= "~Frame"
def aaf:am:= "~CoreRun.__init__"
def aag:am:= "~CoreRun.is_done"
def aah:am:= "~depth"
def aai:am:= "~CoreRun.depth"
def aaj:am:= "~forward"
def aak:am:= "~CoreRun.forward"
def aal:am:= "~step"
def aam:am:= "~CoreRun.step"
def aan:am:= "~do"
def aao:am:= "~CoreRun.do"
def aap:am:= "~number"
def aaq:am:= "~CoreRun.number"
def aar:am:= "~local"
def aas:am:= "~CoreRun.local"
def aat:am:= "~control"
def aau:am:= "~CoreRun.control"
def aav:am:= "~lower"
def aaw:am:= "~CoreRun.lower"
def aax:am:= "~go"
def aay:am:= "~CoreRun.go"
def aaz:am:= "~open_frame"
def aaA:am:= "~CoreRun.open_frame"
def DZ:am:= "~more"
def Yh:am:= "~begin"
def Yi:am:= "~choose"
def Yj:am:= "~branch"
def Yk:am:= "~branch_by_table"
def Yl:am:= "~give_back"
def D0:am:= "~enter"
def qo:am:= "~CoreRun"
def aaB:am:= "~CoreMachine.__init__"
def aaC:am:= "~count"
def aaD:am:= "~CoreMachine.count"
def aaE:am:= "~matched"
def aaF:am:= "~CoreMachine.matched"
def Ym:am:= "~left"
def Yn:am:= "~refuel"
def Yo:am:= "~begun"
def Yp:am:= "~call"
def Yq:am:= "~tried"
def Yr:am:= "~counted"
def wT:am:= "~CoreMachine"
def kZ:am:= "~wasmcore.machine"
def aaG:am:= "~Run.more"
def aaH:am:= "~address_in"
def aaI:am:= "~Run.address_in"
def aaJ:am:= "~Run.enter"
def aaK:am:= "~hosted"
def aaL:am:= "~Run.hosted"
def aaM:am:= "~cell"
def aaN:am:= "~Run.cell"
def aaO:am:= "~element"
def aaP:am:= "~Run.element"
def aaQ:am:= "~table_of"
def aaR:am:= "~Run.table_of"
def aaS:am:= "~memory_of"
def aaT:am:= "~Run.memory_of"
def aaU:am:= "~memory"
def aaV:am:= "~Run.memory"
def aaW:am:= "~octets"
def aaX:am:= "~Run.octets"
def aaY:am:= "~reference"
def aaZ:am:= "~Run.reference"
def aa0:am:= "~elements"
def aa1:am:= "~Run.elements"
def aa2:am:= "~many_elements"
def aa3:am:= "~Run.many_elements"
def wU:am:= "~Run"
def gh:am:= "~law_nm0174_01"
def aa4:am:= "~Func.__init__"
def aa5:am:= "~wasmcore.modules"
def wV:am:= "~Func"
def z3:am:= "~_law_types"
def z4:am:= "~_law_widths"
def z5:am:= "~_law_number"
def z6:am:= "~_law_reference"
def z7:am:= "~_law_three"
def z8:am:= "~_law_octets"
def z9:am:= "~_law_elements"
def Aa:am:= "~_law_deed"
def Ab:am:= "~_law_body"
def Ac:am:= "~_law_world"
def wW:am:= "~_law_host"
def Ad:am:= "~_law_store"
def Ae:am:= "~_law_accessed"
def Af:am:= "~_law_grown"
def Ag:am:= "~_law_moved"
def Ah:am:= "~_law_many"
def Ai:am:= "~_law_called"
def Aj:am:= "~_law_through"
def Ak:am:= "~_law_does"
def Am:am:= "~_law_due"
def An:am:= "~_law_told"
def wX:am:= "~law"
def Ys:am:= "~__package__"
def Yt:am:= "~__loader__"
def Yu:am:= "~__spec__"
def Yv:am:= "~__annotations__"
def Yw:am:= "~__builtins__"
def Yx:am:= "~__file__"
def Yy:am:= "~__cached__"
def Yz:am:= "~_wall"
def YA:am:= "~DIVIDE_BY_ZERO"
def YB:am:= "~integer divide by zero"
def YC:am:= "~OVERFLOW"
def YD:am:= "~integer overflow"
def YE:am:= "~I32_EQZ"
def YF:am:= "~I32_EQ"
def YG:am:= "~I64_EQZ"
def YH:am:= "~I64_EQ"
def YI:am:= "~I32_CLZ"
def YJ:am:= "~I32_ADD"
def YK:am:= "~I64_CLZ"
def YL:am:= "~I64_ADD"
def YM:am:= "~WRAP"
def YN:am:= "~EXTEND_S"
def YO:am:= "~EXTEND_U"
def YP:am:= "~I32_EXTEND8"
def YQ:am:= "~I64_EXTEND8"
def YR:am:= "~least_signed"
def YS:am:= "~eqz"
def YT:am:= "~clz"
def YU:am:= "~ctz"
def YV:am:= "~popcnt"
def YW:am:= "~sub"
def YX:am:= "~mul"
def YY:am:= "~toward_nought"
def YZ:am:= "~div_s"
def Y0:am:= "~div_u"
def Y1:am:= "~rem_s"
def Y2:am:= "~rem_u"
def Y3:am:= "~bits_and"
def Y4:am:= "~bits_or"
def Y5:am:= "~bits_xor"
def Y7:am:= "~shl"
def Y8:am:= "~shr_s"
def Y9:am:= "~shr_u"
def Za:am:= "~rotl"
def Zb:am:= "~rotr"
def Zc:am:= "~eq"
def Zd:am:= "~ne"
def Ze:am:= "~lt_s"
def Zf:am:= "~lt_u"
def Zg:am:= "~gt_s"
def Zh:am:= "~gt_u"
def Zi:am:= "~le_s"
def Zj:am:= "~le_u"
def Zk:am:= "~ge_s"
def Zl:am:= "~ge_u"
def Zm:am:= "~COUNTS"
def Zn:am:= "~COMPARES"
def Zo:am:= "~REST"
def Zp:am:= "~reckon1"
def Zq:am:= "~I32"
def Zr:am:= "~I64"
def Zs:am:= "~FUNCREF"
def Zt:am:= "~EXTERNREF"
def Zu:am:= "~EMPTY"
def Zv:am:= "~KIND_NAMES"
def Zw:am:= "~HEAP_NAMES"
def Zx:am:= "~block_kind"
def Zy:am:= "~BLOCK"
def Zz:am:= "~LOOP"
def ZA:am:= "~IF"
def S276:am:= "~ELSE"
def S277:am:= "~END"
def S278:am:= "~LOADS"
def S279:am:= "~STORES"
def S280:am:= "~REFUSED"
def S281:am:= "~OUTSIDE_MEMORY"
def S282:am:= "~out of bounds memory access"
def S283:am:= "~OUTSIDE_TABLE"
def S284:am:= "~out of bounds table access"
def S285:am:= "~of_sort"
def S286:am:= "~FUEL"
def S287:am:= "~fuel"
def S288:am:= "~CALL_STACK"
def S289:am:= "~call stack"
def S290:am:= "~UNREACHABLE"
def S291:am:= "~unreachable"
def S292:am:= "~UNDEFINED"
def S293:am:= "~undefined element"
def S294:am:= "~UNINITIALIZED"
def S295:am:= "~uninitialized element"
def S296:am:= "~OTHER_KIND"
def S297:am:= "~indirect call type mismatch"
def S298:am:= "~__name__"
def mainT(P:ay):26e2:=[de P ji 166 .L,
 de P Ys 167 .L,
 de P Yt 168 (.bJ "__main__.__loader__#opaque"),
 de P Yu 169 .L,
 1 Yv 170 6,
 1 Yw 171 4,
 237 Yx 173 S1 172,
 de P Yy 174 .L,
 1 Yz 193 21,
 1 i5 224 38,
 1 ql 240 51,
 1 qm 256 63,
 1 qn 272 75,
 237 YA 276 YB 275,
 237 YC 278 YD 277,
 80 YE 280 69 279,
 80 YF 282 70 281,
 80 YG 284 80 283,
 80 YH 286 81 285,
 80 YI 288 103 287,
 80 YJ 290 106 289,
 80 YK 292 121 291,
 80 YL 294 124 293,
 80 YM 296 167 295,
 80 YN 298 172 297,
 80 YO 300 173 299,
 80 YP 302 192 301,
 80 YQ 304 194 303,
 1 zS 312 84,
 1 zT 320 91,
 1 YR 327 98,
 1 zU 336 105,
 1 YS 344 112,
 1 YT 354 119,
 1 YU 364 126,
 1 YV 373 133,
 1 zV 382 140,
 1 YW 391 147,
 1 YX 400 154,
 1 YY 409 161,
 1 YZ 420 168,
 1 Y0 429 175,
 1 Y1 440 182,
 1 Y2 449 189,
 1 Y3 458 196,
 1 Y4 467 203,
 1 Y5 476 210,
 1 Y7 485 217,
 1 Y8 494 224,
 1 Y9 503 231,
 1 Za 513 238,
 1 Zb 522 245,
 1 Zc 531 252,
 1 Zd 540 259,
 1 Ze 549 266,
 1 Zf 558 273,
 1 Zg 567 280,
 1 Zh 576 287,
 1 Zi 585 294,
 1 Zj 594 301,
 1 Zk 603 308,
 1 Zl 612 315,
 1 Zm 613 316,
 1 Zn 614 317,
 1 Zo 615 318,
 1 zW 625 325,
 1 zX 632 332,
 1 zY 639 339,
 1 Zp 649 346,
 1 zZ 659 353,
 80 Zq 664 (-1) 663,
 80 Zr 667 (-2) 666,
 80 Zs 670 (-16) 669,
 80 Zt 673 (-17) 672,
 80 Zu 676 (-64) 675,
 1 Zv 685 354,
 1 Zw 690 355,
 1 wI 731 373,
 1 z0 738 384,
 1 S31 745 391,
 1 S32 752 398,
 1 Zx 760 405,
 80 Zy 764 2 763,
 80 Zz 766 3 765,
 80 ZA 768 4 767,
 80 S276 770 5 769,
 80 S277 772 11 771,
 1 S278 821 406,
 1 S279 843 419,
 1 S34 850 433,
 1 S35 864 440,
 1 S36 876 447,
 1 S38 882 452,
 80 S280 886 4294967295 885,
 237 S281 888 S282 887,
 237 S283 890 S284 889,
 1 S39 900 459,
 1 S40 908 466,
 1 S41 914 471,
 1 S42 925 478,
 1 S285 933 485,
 1 wJ 1075 586,
 1 wK 1200 677,
 1 wL 1262 726,
 1 wM 1302 754,
 1 wN 1349 789,
 1 wO 1437 852,
 237 S286 1441 S287 1440,
 237 S288 1443 S289 1442,
 237 S290 1445 S291 1444,
 1 wP 1476 873,
 1 wQ 1504 894,
 1 wR 1546 922,
 1 wS 1602 957,
 1 qo 1818 1110,
 1 wT 1923 1188,
 237 S292 1927 S293 1926,
 237 S294 1929 S295 1928,
 237 S296 1931 S297 1930,
 1 wU 2092 1293,
 1 wV 2134 1319,
 1 z3 2142 1330,
 1 z4 2149 1337,
 1 z5 2156 1344,
 1 z6 2164 1351,
 1 z7 2172 1358,
 1 z8 2178 1363,
 1 z9 2192 1370,
 1 Aa 2205 1377,
 1 Ab 2214 1384,
 1 Ac 2220 1389,
 1 wW 2230 1396,
 1 Ad 2236 1401,
 1 Ae 2242 1406,
 1 Af 2254 1413,
 1 Ag 2268 1420,
 1 Ah 2287 1427,
 1 Ai 2300 1434,
 1 Aj 2312 1441,
 1 Ak 2327 1448,
 1 Am 2339 1455,
 1 An 2347 1462,
 1 wX 2353 1467]
def fM(P:ay)(nm:af)(k n:I):aA:=(91 (de P S298 165 nm::(mainT P).fG k).gF n)
def tabL:2e4:=[3 1,1e4,.N 20,3 5,1e4,.N 27,3 10,1e4,.N 47,3 12,1e4,.N 59,3 14,1e4,.N 71,3 32,1e4,.N 83,3 34,1e4,.N 90,3 36,1e4,.N 97,3 38,1e4,.N 104,3 40,1e4,.N 111,3 42,1e4,.N 118,3 53,1e4,.N 125,3 64,1e4,.N 132,3 70,1e4,.N 139,3 72,1e4,.N 146,3 74,1e4,.N 153,3 76,1e4,.N 160,3 79,1e4,.N 167,3 86,1e4,.N 174,3 90,1e4,.N 181,3 95,1e4,.N 188,3 99,1e4,.N 195,3 101,1e4,.N 202,3 103,1e4,.N 209,3 105,1e4,.N 216,3 107,1e4,.N 223,3 109,1e4,.N 230,3 111,1e4,.N 237,3 114,1e4,.N 244,3 116,1e4,.N 251,3 118,1e4,.N 258,3 120,1e4,.N 265,3 122,1e4,.N 272,3 124,1e4,.N 279,3 126,1e4,.N 286,3 128,1e4,.N 293,3 130,1e4,.N 300,3 132,1e4,.N 307,3 134,1e4,.N 314,3 139,1e4,.N 324,3 145,1e4,.N 331,3 151,1e4,.N 338,3 155,1e4,.N 345,3 169,1e4,.N 352,3 185,1e4,.N 361,3 193,1e4,.N 383,3 195,1e4,.N 390,3 197,1e4,.N 397,3 199,1e4,.N 404,3 213,1e4,.N 432,3 215,1e4,.N 439,3 230,1e4,.N 446,3 235,1e4,.N 451,3 241,1e4,.N 458,3 244,1e4,.N 465,3 250,1e4,.N 470,3 254,1e4,.N 477,3 259,1e4,.N 484,3 263,1e4,.N 491,3 322,1e4,.N 596,3 373,1e4,.N 687,3 395,1e4,.N 736,3 404,1e4,.N 764,3 418,1e4,.N 799,3 452,1e4,.N 862,3 457,1e4,.N 883,3 461,1e4,.N 904,3 471,1e4,.N 932,3 490,1e4,.N 967,3 648,1e4,.N 1120,3 696,1e4,.N 1198,3 830,1e4,.N 1301,3 840,1e4,.N 1329,3 842,1e4,.N 1336,3 848,1e4,.N 1343,3 850,1e4,.N 1350,3 854,1e4,.N 1357,3 856,1e4,.N 1362,3 874,1e4,.N 1369,3 894,1e4,.N 1376,3 914,1e4,.N 1383,3 921,1e4,.N 1388,3 928,1e4,.N 1395,3 930,1e4,.N 1400,3 947,1e4,.N 1405,3 964,1e4,.N 1412,3 970,1e4,.N 1419,3 976,1e4,.N 1426,3 995,1e4,.N 1433,3 1006,1e4,.N 1440,3 1015,1e4,.N 1447,3 1052,1e4,.N 1454,3 1064,1e4,.N 1461,3 1072,1e4,.N 1466]
def gT(k:I):aA:=⟨.L,L,.cp (tabL.fG k).gF,#[]⟩
def gU(s:ay):aA:=(287 #[.ag S0 182,.ag S0 183,120 184,3 1,1e4,1e4,1e4,1e4,.N 11,33e5,37e5,.N 12,.L,.L,.L,.L,3 185,3 1,120 186])
def o2(P:ay):aA:=⟨.L,L,.bw #[de P S2 221 (3 38),de P S3 222 (3 1)] 2,#[]⟩
def D1(s:ay):aA:=(cb S5 S6 208 213 7 2 29)
def D2(s:ay):aA:=(155 2 0 S6 S4 194 34)
def uM(P:ay):aA:=(91 #[136 203 S4 194,135 207 5 206,1 S5 215 35,1 S9 217 36,1 lH 219 39,de P ji 220 .L] 3)
def o38(s:ay):aA:=(97 L i5 [22e7] [32e7,22e7,22e5,6e9] 37 i5 [] #[47 22,L,14 i5 196,14 i5 204,G 41e5,12e0])
def o38v1(s:ay):aA:=(97 L i5 [22e7] [32e7,22e7,22e5,6e9] 37 i5 [.N 51] #[47 22,L,14 i5 196,14 i5 204,G 41e5,12e0])
def D3(P:ay):aA:=(91 #[136 232 S4 194,135 236 10 235,1 S9 237 49,de P ji 238 .L] 2)
def D4(s:ay):aA:=(97 L ql [32e7] [.N 51,32e7,22e7,22e5,6e9] 50 ql [] #[47 42,L,14 ql 225,14 ql 233,G 41e5,12e0])
def o38v2(s:ay):aA:=(97 L i5 [22e7] [32e7,22e7,22e5,6e9] 37 i5 [.N 51,.N 63] #[47 22,L,14 i5 196,14 i5 204,G 41e5,12e0])
def D5(P:ay):aA:=(91 #[136 248 S4 194,135 252 12 251,1 S9 253 61,de P ji 254 .L] 2)
def D6(s:ay):aA:=(97 L qm [32e7] [.N 63,32e7,22e7,22e5,6e9] 62 qm [] #[47 54,L,14 qm 241,14 qm 249,G 41e5,12e0])
def D7(s:ay):aA:=(97 L i5 [22e7] [32e7,22e7,22e5,6e9] 37 i5 [.N 51,.N 63,.N 75] #[47 22,L,14 i5 196,14 i5 204,G 41e5,12e0])
def D8(P:ay):aA:=(91 #[136 264 S4 194,135 268 14 267,1 S9 269 73,de P ji 270 .L] 2)
def D9(s:ay):aA:=(97 L qn [32e7] [.N 75,32e7,22e7,22e5,6e9] 74 qn [] #[47 66,L,14 qn 257,14 qn 265,G 41e5,12e0])
def Ea(s:ay):aA:=(cb zS zS 305 310 32 2 78)
def Eb(s:ay):aA:=(119 22 zS nu 273 83)
def Ec(s:ay):aA:=(cb zT zT 313 318 34 2 85)
def Ed(s:ay):aA:=(119 23 zT nu 273 90)
def Ee(s:ay):aA:=(cb zU zU 328 334 38 3 99)
def Ef(s:ay):aA:=(119 25 zU nu 273 104)
def Eg(s:ay):aA:=(cb zV zV 374 380 70 3 134)
def Eh(s:ay):aA:=(119 30 zV nu 273 139)
def Ei(s:ay):aA:=(87 #[.N 119,.N 126,.N 133])
def Ej(s:ay):aA:=(87 #[.N 140,.N 147,.N 154,.N 168,.N 175,.N 182,.N 189,.N 196,.N 203,.N 210,.N 217,.N 224,.N 231,.N 238,.N 245])
def Ek(s:ay):aA:=(cb zW zW 616 623 139 4 319)
def El(s:ay):aA:=(119 59 zW nu 273 324)
def Em(s:ay):aA:=(cb zX zX 626 630 145 1 326)
def En(s:ay):aA:=(119 60 zX nu 273 331)
def Eo(s:ay):aA:=(cb zY zY 633 637 151 1 333)
def Ep(s:ay):aA:=(119 61 zY nu 273 338)
def Er(s:ay):aA:=(cb zZ zZ 650 657 169 3 347)
def Et(s:ay):aA:=(119 63 zZ nu 273 352)
def Eu(s:ay):aA:=(87 #[.y 65536 703,.y 65536 704,.y 4294967295 705,.y 200 706,.L])
def Ev(s:ay):aA:=(cb S5 OO 707 716 187 6 364)
def Ew(s:ay):aA:=(b4 (dk 72 0) OO (.N 363) rz 660 369)
def Ex(P:ay):aA:=(91 #[136 698 rz 660,135 702 185 701,1 S5 718 370,1 S9 724 371,1 ml 726 374,1 lH 728 375,de P ji 729 .L] 4)
def Ey(s:ay):aA:=(97 L wI [6e9] [.N 373,6e9] 372 wI [] #[L,L,14 wI 691,14 wI 699,23e0,12e0])
def Ez(s:ay):aA:=(cb z0 z0 732 736 193 1 378)
def EA(s:ay):aA:=(119 73 z0 rz 660 383)
def EB(s:ay):aA:=(cb S31 S31 739 743 195 1 385)
def EC(s:ay):aA:=(119 74 S31 rz 660 390)
def ED(s:ay):aA:=(cb S32 S32 746 750 197 1 392)
def EF(s:ay):aA:=(119 75 S32 rz 660 397)
def EG(s:ay):aA:=(91 #[⟨40,.y 40 773,.N 407⟩,⟨41,.y 41 776,.N 408⟩,⟨44,.y 44 779,.N 409⟩,⟨45,.y 45 782,.N 410⟩,⟨46,.y 46 785,.N 411⟩,⟨47,.y 47 788,.N 412⟩,⟨48,.y 48 791,.N 413⟩,⟨49,.y 49 794,.N 414⟩,⟨50,.y 50 797,.N 415⟩,⟨51,.y 51 800,.N 416⟩,⟨52,.y 52 803,.N 417⟩,⟨53,.y 53 806,.N 418⟩] 12)
def EH(s:ay):aA:=(87 #[.y (-1) 663,.y 4 774,.y 0 775])
def EI(s:ay):aA:=(87 #[.y (-2) 666,.y 8 777,.y 0 778])
def EJ(s:ay):aA:=(87 #[.y (-1) 663,.y 1 780,.y 1 781])
def EK(s:ay):aA:=(87 #[.y (-1) 663,.y 1 783,.y 0 784])
def EL(s:ay):aA:=(87 #[.y (-1) 663,.y 2 786,.y 1 787])
def EM(s:ay):aA:=(87 #[.y (-1) 663,.y 2 789,.y 0 790])
def EN(s:ay):aA:=(87 #[.y (-2) 666,.y 1 792,.y 1 793])
def EO(s:ay):aA:=(87 #[.y (-2) 666,.y 1 795,.y 0 796])
def EP(s:ay):aA:=(87 #[.y (-2) 666,.y 2 798,.y 1 799])
def EQ(s:ay):aA:=(87 #[.y (-2) 666,.y 2 801,.y 0 802])
def ER(s:ay):aA:=(87 #[.y (-2) 666,.y 4 804,.y 1 805])
def ES(s:ay):aA:=(87 #[.y (-2) 666,.y 4 807,.y 0 808])
def ET(s:ay):aA:=(91 #[⟨54,.y 54 822,.N 420⟩,⟨55,.y 55 824,.N 421⟩,⟨58,.y 58 826,.N 422⟩,⟨59,.y 59 828,.N 423⟩,⟨60,.y 60 830,.N 424⟩,⟨61,.y 61 832,.N 425⟩,⟨62,.y 62 834,.N 426⟩] 7)
def EU(s:ay):aA:=(87 #[.y (-1) 663,.y 4 823])
def EV(s:ay):aA:=(87 #[.y (-2) 666,.y 8 825])
def EW(s:ay):aA:=(87 #[.y (-1) 663,.y 1 827])
def EX(s:ay):aA:=(87 #[.y (-1) 663,.y 2 829])
def EY(s:ay):aA:=(87 #[.y (-2) 666,.y 1 831])
def EZ(s:ay):aA:=(87 #[.y (-2) 666,.y 2 833])
def E0(s:ay):aA:=(87 #[.y (-2) 666,.y 4 835])
def E1(s:ay):aA:=(cb S34 S34 844 848 213 1 427)
def E3(s:ay):aA:=(119 85 S34 wH 761 432)
def E4(s:ay):aA:=(cb S35 S35 851 862 215 1 434)
def E5(s:ay):aA:=(119 86 S35 wH 761 439)
def E6(s:ay):aA:=(cb S36 S36 867 874 230 1 441)
def E7(s:ay):aA:=(119 88 S36 OP 865 446)
def E8(s:ay):aA:=(287 #[.ag S38 877,.ag S38 878,120 879,3 235,3 2,1e4,1e4,3 3,.N 448,22e6,37e5,.N 449,.L,.L,.L,.N 450,3 880,3 235,120 881])
def E9(s:ay):aA:=(119 89 S38 OP 865 451)
def Fa(s:ay):aA:=(cb S39 S39 891 898 241 4 453)
def Fb(s:ay):aA:=(119 94 S39 eT 883 458)
def Fc(s:ay):aA:=(cb S40 S40 901 906 244 2 460)
def Fd(s:ay):aA:=(119 95 S40 eT 883 465)
def Fe(s:ay):aA:=(287 #[.ag S41 909,.ag S41 910,120 911,3 250,3 2,1e4,1e4,3 3,.N 467,22e6,37e5,.N 468,.L,.L,.L,.N 469,3 912,3 250,120 913])
def Ff(s:ay):aA:=(119 96 S41 eT 883 470)
def Fg(s:ay):aA:=(cb S42 S42 915 923 254 4 472)
def Fh(s:ay):aA:=(119 97 S42 eT 883 477)
def Fi(s:ay):aA:=(cb S5 OQ 946 953 265 4 493)
def Fj(s:ay):aA:=(66 99 0 OQ 498)
def Fk(s:ay):aA:=(cb S44 OR 956 960 273 1 500)
def Fl(s:ay):aA:=(66 99 1 OR 505)
def Fm(s:ay):aA:=(cb S46 OS 970 976 279 2 514)
def Fo(s:ay):aA:=(66 99 3 OS 519)
def Fp(s:ay):aA:=(cb S48 OT 979 985 286 3 521)
def Fq(s:ay):aA:=(66 99 4 OT 526)
def Fr(s:ay):aA:=(cb OU OV 988 994 289 3 528)
def Fs(s:ay):aA:=(66 99 5 OV 533)
def Ft(s:ay):aA:=(cb OW OX 997 1004 293 4 535)
def Fu(s:ay):aA:=(66 99 6 OX 540)
def Fv(s:ay):aA:=(cb OY OZ 1016 1022 301 3 549)
def Fw(s:ay):aA:=(66 99 8 OZ 554)
def Fy(s:ay):aA:=(cb S56 O0 1025 1032 305 4 556)
def Fz(s:ay):aA:=(66 99 9 O0 561)
def FE(s:ay):aA:=(cb S58 O1 1035 1042 309 4 563)
def FF(s:ay):aA:=(66 99 10 O1 568)
def FG(s:ay):aA:=(cb S60 O2 1045 1054 314 5 570)
def FI(s:ay):aA:=(66 99 11 O2 575)
def FJ(P:ay):aA:=(91 #[136 941 eT 883,135 945 263 944,1 S5 955 499,1 S44 962 506,1 X9 969 513,1 S46 978 520,1 S48 987 527,1 OU 996 534,1 OW 1006 541,1 Ya 1015 548,1 OY 1024 555,1 S56 1034 562,1 S58 1044 569,1 S60 1056 576,1 s7 1063 583,1 S9 1068 584,1 ml 1070 587,1 lH 1072 588,de P ji 1073 .L] 4)
def FK(s:ay):aA:=(97 L wJ [6e9] [.N 586,6e9] 585 wJ [] #[L,L,14 wJ 934,14 wJ 942,23e0,12e0])
def FL(s:ay):aA:=(cb S5 O3 1088 1096 324 5 598)
def FM(s:ay):aA:=(66 100 0 O3 603)
def FN(s:ay):aA:=(cb S44 O4 1099 1103 332 1 605)
def FO(s:ay):aA:=(66 100 1 O4 610)
def FP(s:ay):aA:=(cb S48 O5 1113 1119 338 3 619)
def FQ(s:ay):aA:=(66 100 3 O5 624)
def FR(s:ay):aA:=(cb DX O6 1122 1127 341 2 626)
def FS(s:ay):aA:=(66 100 4 O6 631)
def FT(s:ay):aA:=(cb DY O7 1130 1136 345 3 633)
def FU(s:ay):aA:=(66 100 5 O7 638)
def FV(s:ay):aA:=(cb S46 O8 1139 1146 349 3 640)
def FW(s:ay):aA:=(66 100 6 O8 645)
def FX(s:ay):aA:=(cb S56 O9 1149 1156 356 4 647)
def FY(s:ay):aA:=(66 100 7 O9 652)
def FZ(s:ay):aA:=(cb S58 Pa 1159 1167 360 5 654)
def Ga(s:ay):aA:=(66 100 8 Pa 659)
def Gb(s:ay):aA:=(cb S60 Pb 1170 1179 365 5 661)
def Gc(s:ay):aA:=(66 100 9 Pb 666)
def Gd(P:ay):aA:=(91 #[136 1083 eT 883,135 1087 322 1086,1 S5 1098 604,1 S44 1105 611,1 Yb 1112 618,1 S48 1121 625,1 DX 1129 632,1 DY 1138 639,1 S46 1148 646,1 S56 1158 653,1 S58 1169 660,1 S60 1181 667,1 s7 1188 674,1 S9 1193 675,1 ml 1195 678,1 lH 1197 679,de P ji 1198 .L] 4)
def Ge(s:ay):aA:=(97 L wK [6e9] [.N 677,6e9] 676 wK [] #[L,L,14 wK 1076,14 wK 1084,23e0,12e0])
def Gf(s:ay):aA:=(cb S5 Pc 1213 1220 375 4 689)
def Gg(s:ay):aA:=(66 101 0 Pc 694)
def Gh(P:ay):aA:=(91 #[136 1208 eT 883,135 1212 373 1211,1 S5 1222 695,1 Yc 1229 702,1 DX 1236 709,1 DY 1244 716,1 s7 1251 723,1 S9 1255 724,1 ml 1257 727,1 lH 1259 728,de P ji 1260 .L] 4)
def Gi(s:ay):aA:=(97 L wL [6e9] [.N 726,6e9] 725 wL [] #[L,L,14 wL 1201,14 wL 1209,23e0,12e0])
def Gj(s:ay):aA:=(cb S5 Pd 1275 1282 397 4 738)
def Gk(s:ay):aA:=(66 102 0 Pd 743)
def Gl(s:ay):aA:=(cb S83 Pe 1285 1289 402 1 745)
def Gm(s:ay):aA:=(66 102 1 Pe 750)
def Gn(P:ay):aA:=(91 #[136 1270 eT 883,135 1274 395 1273,1 S5 1284 744,1 S83 1291 751,1 S9 1295 752,1 ml 1297 755,1 lH 1299 756,de P ji 1300 .L] 4)
def Go(s:ay):aA:=(97 L wM [6e9] [.N 754,6e9] 753 wM [] #[L,L,14 wM 1263,14 wM 1271,23e0,12e0])
def Gp(s:ay):aA:=(cb S5 Pf 1315 1321 406 3 766)
def Gq(s:ay):aA:=(66 103 0 Pf 771)
def Gr(s:ay):aA:=(cb S83 Pg 1324 1328 410 1 773)
def Gs(s:ay):aA:=(66 103 1 Pg 778)
def Gu(s:ay):aA:=(cb Ph S89 1331 1337 413 2 780)
def Gv(s:ay):aA:=(66 103 2 S89 785)
def Gw(P:ay):aA:=(91 #[136 1310 eT 883,135 1314 404 1313,1 S5 1323 772,1 S83 1330 779,1 Ph 1339 786,1 S9 1342 787,1 ml 1344 790,1 lH 1346 791,de P ji 1347 .L] 4)
def Gx(s:ay):aA:=(97 L wN [6e9] [.N 789,6e9] 788 wN [] #[L,L,14 wN 1303,14 wN 1311,23e0,12e0])
def Gy(s:ay):aA:=(cb S5 S91 1362 1367 420 2 801)
def Gz(s:ay):aA:=(66 104 0 S91 806)
def GA(s:ay):aA:=(cb S92 S93 1405 1410 443 2 836)
def GB(s:ay):aA:=(66 104 5 S93 841)
def GC(s:ay):aA:=(cb S94 S95 1413 1418 446 2 843)
def GD(s:ay):aA:=(66 104 6 S95 848)
def GE(P:ay):aA:=(91 #[136 1357 eT 883,135 1361 418 1360,1 S5 1369 807,1 Yd 1377 814,1 Ye 1386 821,1 Yf 1395 828,1 Yg 1404 835,1 S92 1412 842,1 S94 1420 849,1 S9 1430 850,1 ml 1432 853,1 lH 1434 854,de P ji 1435 .L] 4)
def GF(s:ay):aA:=(97 L wO [6e9] [.N 852,6e9] 851 wO [] #[L,L,14 wO 1350,14 wO 1358,23e0,12e0])
def GG(s:ay):aA:=(cb S5 aaa 1458 1464 454 3 864)
def GH(s:ay):aA:=(143 109 0 aaa 869)
def GI(P:ay):aA:=(91 #[136 1453 gg 1438,135 1457 452 1456,1 S5 1466 870,1 S9 1469 871,1 ml 1471 874,1 lH 1473 875,de P ji 1474 .L] 4)
def GJ(s:ay):aA:=(97 L wP [6e9] [.N 873,6e9] 872 wP [] #[L,L,14 wP 1446,14 wP 1454,23e0,12e0])
def GK(s:ay):aA:=(cb S5 aab 1489 1493 459 1 885)
def GL(s:ay):aA:=(143 110 0 aab 890)
def GM(P:ay):aA:=(91 #[136 1484 gg 1438,135 1488 457 1487,1 S5 1495 891,1 S9 1497 892,1 ml 1499 895,1 lH 1501 896,de P ji 1502 .L] 4)
def GN(s:ay):aA:=(97 L wQ [6e9] [.N 894,6e9] 893 wQ [] #[L,L,14 wQ 1477,14 wQ 1485,23e0,12e0])
def GO(s:ay):aA:=(cb S5 aac 1517 1525 463 5 906)
def GP(s:ay):aA:=(143 111 0 aac 911)
def GQ(P:ay):aA:=(91 #[136 1512 gg 1438,135 1516 461 1515,1 S5 1527 912,1 s7 1534 919,1 S9 1539 920,1 ml 1541 923,1 lH 1543 924,de P ji 1544 .L] 4)
def GR(s:ay):aA:=(97 L wR [6e9] [.N 922,6e9] 921 wR [] #[L,L,14 wR 1505,14 wR 1513,23e0,12e0])
def GS(s:ay):aA:=(cb S5 aad 1559 1568 473 6 934)
def GT(s:ay):aA:=(143 112 0 aad 939)
def GU(s:ay):aA:=(cb z1 aae 1571 1575 485 1 941)
def GV(s:ay):aA:=(143 112 1 aae 946)
def GW(P:ay):aA:=(91 #[136 1554 gg 1438,135 1558 471 1557,1 S5 1570 940,1 z1 1577 947,1 s7 1584 954,1 S9 1595 955,1 ml 1597 958,1 lH 1599 959,de P ji 1600 .L] 4)
def GX(s:ay):aA:=(97 L wS [6e9] [.N 957,6e9] 956 wS [] #[L,L,14 wS 1547,14 wS 1555,23e0,12e0])
def GY(s:ay):aA:=(cb S5 aaf 1615 1622 492 4 969)
def GZ(s:ay):aA:=(143 113 0 aaf 974)
def G0(s:ay):aA:=(cb z1 aag 1625 1629 501 1 976)
def G1(s:ay):aA:=(143 113 1 aag 981)
def G2(s:ay):aA:=(cb aah aai 1632 1636 504 1 983)
def G3(s:ay):aA:=(143 113 2 aai 988)
def G5(s:ay):aA:=(87 #[.L])
def G6(s:ay):aA:=(cb aaj aak 1646 1652 510 2 998)
def G7(s:ay):aA:=(b4 (dk 113 4) aak (.N 997) gg 1438 1003)
def G8(s:ay):aA:=(cb aal aam 1655 1662 517 1 1005)
def G9(s:ay):aA:=(143 113 5 aam 1010)
def Ha(s:ay):aA:=(cb aan aao 1665 1673 531 4 1012)
def Hb(s:ay):aA:=(143 113 6 aao 1017)
def Hc(s:ay):aA:=(cb aap aaq 1685 1691 549 2 1026)
def Hd(s:ay):aA:=(143 113 8 aaq 1031)
def He(s:ay):aA:=(cb aar aas 1694 1704 556 3 1033)
def Hf(s:ay):aA:=(143 113 9 aas 1038)
def Hg(s:ay):aA:=(cb aat aau 1707 1715 572 4 1040)
def Hh(s:ay):aA:=(143 113 10 aau 1045)
def Hi(s:ay):aA:=(cb aav aaw 1763 1770 621 3 1075)
def Hj(s:ay):aA:=(143 113 15 aaw 1080)
def Hk(s:ay):aA:=(cb aax aay 1781 1788 630 4 1089)
def Hl(s:ay):aA:=(143 113 17 aay 1094)
def Hm(s:ay):aA:=(287 #[.ag aaz 1799,.ag aaA 1800,120 1801,3 639,3 2,1e4,1e4,3 3,.N 1103,22e6,37e5,.N 1104,.L,.L,.L,.N 1105,3 1802,3 639,120 1803])
def Hn(s:ay):aA:=(143 113 19 aaA 1106)
def Ao(P:ay):aA:=(91 #[136 1610 gg 1438,135 1614 490 1613,1 S5 1624 975,1 z1 1631 982,1 aah 1638 989,1 s7 1645 996,1 aaj 1654 1004,1 aal 1664 1011,1 aan 1675 1018,1 DZ 1684 1025,1 aap 1693 1032,1 aar 1706 1039,1 aat 1717 1046,1 Yh 1730 1053,1 Yi 1741 1060,1 Yj 1752 1067,1 Yk 1762 1074,1 aav 1772 1081,1 Yl 1780 1088,1 aax 1790 1095,1 D0 1798 1102,1 aaz 1804 1107,1 S9 1811 1108,1 ml 1813 1111,1 lH 1815 1112,de P ji 1816 .L] 4)
def o1110(s:ay):aA:=(97 L qo [6e9] [.N 1110,6e9] 1109 qo [] #[L,L,14 qo 1603,14 qo 1611,23e0,12e0])
def Ho(s:ay):aA:=(87 #[.L,.y 200 1831])
def Hp(s:ay):aA:=(cb S5 aaB 1832 1839 650 4 1123)
def Hq(s:ay):aA:=(b4 (dk 114 0) aaB (.N 1122) gg 1438 1128)
def Hr(s:ay):aA:=(cb aaC aaD 1842 1846 659 1 1130)
def Hs(s:ay):aA:=(143 114 1 aaD 1135)
def Ht(s:ay):aA:=(cb aaE aaF 1864 1869 670 2 1151)
def Hu(s:ay):aA:=(143 114 4 aaF 1156)
def Hv(P:ay):aA:=(91 #[136 1826 gg 1438,135 1830 648 1829,1 S5 1841 1129,1 aaC 1848 1136,1 Ym 1855 1143,1 Yn 1863 1150,1 aaE 1871 1157,1 Yo 1880 1164,1 Yp 1890 1171,1 Yq 1899 1178,1 Yr 1908 1185,1 S9 1916 1186,1 ml 1918 1189,1 lH 1920 1190,de P ji 1921 .L] 4)
def Hw(s:ay):aA:=(97 L wT [6e9] [.N 1188,6e9] 1187 wT [] #[L,L,14 wT 1819,14 wT 1827,23e0,12e0])
def Hx(s:ay):aA:=(97 L qo [6e9] [.N 1110,6e9] 1109 qo [.N 1293] #[L,L,14 qo 1603,14 qo 1611,23e0,12e0])
def Hy(s:ay):aA:=(cb DZ aaG 1944 1951 698 3 1200)
def Hz(s:ay):aA:=(155 119 0 aaG kZ 1924 1205)
def HA(s:ay):aA:=(cb aaH aaI 1954 1962 715 3 1207)
def HB(s:ay):aA:=(155 119 1 aaI kZ 1924 1212)
def HC(s:ay):aA:=(cb D0 aaJ 1965 1973 726 2 1214)
def HD(s:ay):aA:=(155 119 2 aaJ kZ 1924 1219)
def HE(s:ay):aA:=(cb aaK aaL 1976 1983 736 3 1221)
def HF(s:ay):aA:=(155 119 3 aaL kZ 1924 1226)
def HG(s:ay):aA:=(cb aaM aaN 1986 1993 744 3 1228)
def HH(s:ay):aA:=(155 119 4 aaN kZ 1924 1233)
def HI(s:ay):aA:=(cb aaO aaP 1996 2004 751 3 1235)
def HJ(s:ay):aA:=(155 119 5 aaP kZ 1924 1240)
def HK(s:ay):aA:=(cb aaQ aaR 2007 2013 759 3 1242)
def HL(s:ay):aA:=(155 119 6 aaR kZ 1924 1247)
def HM(s:ay):aA:=(cb aaS aaT 2016 2021 762 2 1249)
def HN(s:ay):aA:=(155 119 7 aaT kZ 1924 1254)
def HO(s:ay):aA:=(cb aaU aaV 2024 2036 765 3 1256)
def HP(s:ay):aA:=(155 119 8 aaV kZ 1924 1261)
def HQ(s:ay):aA:=(cb aaW aaX 2039 2050 780 3 1263)
def HR(s:ay):aA:=(155 119 9 aaX kZ 1924 1268)
def HS(s:ay):aA:=(cb aaY aaZ 2053 2060 796 3 1270)
def HT(s:ay):aA:=(155 119 10 aaZ kZ 1924 1275)
def HU(s:ay):aA:=(cb aa0 aa1 2063 2071 805 3 1277)
def HV(s:ay):aA:=(155 119 11 aa1 kZ 1924 1282)
def HW(s:ay):aA:=(cb aa2 aa3 2074 2085 817 3 1284)
def HX(s:ay):aA:=(155 119 12 aa3 kZ 1924 1289)
def HY(P:ay):aA:=(91 #[136 1939 kZ 1924,135 1943 696 1942,1 DZ 1953 1206,1 aaH 1964 1213,1 D0 1975 1220,1 aaK 1985 1227,1 aaM 1995 1234,1 aaO 2006 1241,1 aaQ 2015 1248,1 aaS 2023 1255,1 aaU 2038 1262,1 aaW 2052 1269,1 aaY 2062 1276,1 aa0 2073 1283,1 aa2 2087 1290,1 S9 2089 1291,de P ji 2090 .L] 2)
def HZ(s:ay):aA:=(97 L wU [.N 1110] [.N 1293,.N 1110,6e9] 1292 wU [] #[47 1193,L,14 wU 1932,14 wU 1940,23e0,12e0])
def H0(s:ay):aA:=(cb S5 aa4 2107 2114 832 4 1303)
def H1(s:ay):aA:=(155 121 0 aa4 aa5 2093 1308)
def H2(P:ay):aA:=(91 #[136 2102 aa5 2093,135 2106 830 2105,1 S5 2116 1309,1 s7 2123 1316,1 S9 2127 1317,1 ml 2129 1320,1 lH 2131 1321,de P ji 2132 .L] 4)
def H4(s:ay):aA:=(97 L wV [6e9] [.N 1319,6e9] 1318 wV [] #[L,L,14 wV 2095,14 wV 2103,23e0,12e0])
def H5(s:ay):aA:=(cb z3 z3 2137 2140 840 0 1324)
def H6(s:ay):aA:=(102 123 z3 1329)
def H7(s:ay):aA:=(cb z4 z4 2143 2147 842 0 1331)
def H8(s:ay):aA:=(102 124 z4 1336)
def H9(s:ay):aA:=(cb z5 z5 2150 2154 848 1 1338)
def Ia(s:ay):aA:=(102 125 z5 1343)
def Ib(s:ay):aA:=(cb z6 z6 2157 2162 850 2 1345)
def Ic(s:ay):aA:=(102 126 z6 1350)
def Id(s:ay):aA:=(cb z7 z7 2165 2170 854 2 1352)
def Ie(s:ay):aA:=(102 127 z7 1357)
def Ig(s:ay):aA:=(287 #[.ag z8 2173,.ag z8 2174,120 2175,3 856,3 2,1e4,1e4,3 3,.N 1359,22e6,37e5,.N 1360,.L,.L,.L,.N 1361,3 2176,3 856,120 2177])
def Ii(s:ay):aA:=(102 128 z8 1362)
def Ij(s:ay):aA:=(cb z9 z9 2179 2190 874 2 1364)
def Ik(s:ay):aA:=(102 129 z9 1369)
def Il(s:ay):aA:=(cb Aa Aa 2193 2203 894 1 1371)
def Im(s:ay):aA:=(102 130 Aa 1376)
def Io(s:ay):aA:=(cb Ab Ab 2206 2212 914 1 1378)
def Ip(s:ay):aA:=(102 131 Ab 1383)
def Iq(s:ay):aA:=(287 #[.ag Ac 2215,.ag Ac 2216,120 2217,3 921,3 1,1e4,1e4,3 3,.N 1385,22e6,37e5,.N 1386,.L,.L,.L,.N 1387,3 2218,3 921,120 2219])
def Ir(s:ay):aA:=(102 132 Ac 1388)
def qp(s:ay):aA:=⟨.L,L,.cp #[],#[]⟩
def s9(s:ay):aA:=(cb wW wW 2221 2228 928 2 1390)
def Iu(s:ay):aA:=(102 133 wW 1395)
def Iv(s:ay):aA:=(287 #[.ag Ad 2231,.ag Ad 2232,120 2233,3 930,3 4,1e4,1e4,3 3,.N 1397,22e6,37e5,.N 1398,.L,.L,.L,.N 1399,3 2234,3 930,120 2235])
def Iw(s:ay):aA:=(102 134 Ad 1400)
def Ix(s:ay):aA:=(287 #[.ag Ae 2237,.ag Ae 2238,120 2239,3 947,3 3,1e4,1e4,3 3,.N 1402,22e6,37e5,.N 1403,.L,.L,.L,.N 1404,3 2240,3 947,120 2241])
def Iy(s:ay):aA:=(102 135 Ae 1405)
def Iz(s:ay):aA:=(cb Af Af 2243 2252 964 5 1407)
def IA(s:ay):aA:=(102 136 Af 1412)
def IB(s:ay):aA:=(cb Ag Ag 2255 2266 970 6 1414)
def IC(s:ay):aA:=(102 137 Ag 1419)
def ID(s:ay):aA:=(cb Ah Ah 2269 2285 976 3 1421)
def IE(s:ay):aA:=(102 138 Ah 1426)
def IF(s:ay):aA:=(cb Ai Ai 2288 2298 995 4 1428)
def IG(s:ay):aA:=(102 139 Ai 1433)
def II(s:ay):aA:=(cb Aj Aj 2301 2310 1006 4 1435)
def IJ(s:ay):aA:=(102 140 Aj 1440)
def IK(s:ay):aA:=(cb Ak Ak 2313 2325 1015 4 1442)
def IL(s:ay):aA:=(102 141 Ak 1447)
def IM(s:ay):aA:=(cb Am Am 2328 2337 1052 3 1449)
def IO(s:ay):aA:=(102 142 Am 1454)
def IP(s:ay):aA:=(cb An An 2340 2345 1064 1 1456)
def IQ(s:ay):aA:=(102 143 An 1461)
def IR(s:ay):aA:=(287 #[.ag wX 2348,.ag wX 2349,120 2350,3 1072,3 1,1e4,1e4,3 3,.N 1463,22e6,37e5,.N 1464,.L,.L,.L,.N 1465,3 2351,3 1072,120 2352])
def uN(s:ay):aA:=(102 144 wX 1466)
noncomputable def IS(P:ay):dR:=[(12,gT 0),(13,11e2)]
noncomputable def ta(P:ay):dR:=[(2,15e8),(0,13e0),(4,9e7),(3,34 S4 194 10 11),(12,gT 6),(13,11e2),(34,D1 P),(35,D2 P),(37,uM P),(38,o38 P)]
def ou:fH:=(53 0 3 267 15 187 0 0 0 [2,0,4,3,12,13] 42 225 5 9 22)
noncomputable def mm(P:ay):dR:=[(37,uM P),(2,15e8),(4,9e7),(12,gT 9),(13,11e2),(38,o38v1 P),(3,34 S4 194 11 12),(0,13e0),(50,D3 P),(51,D4 P)]
def IT:fH:=(53 3 1 214 42 225 5 9 22 [37,2,4,12,13,38,3,0] 54 241 10 11 8)
noncomputable def ob3(P:ay):dR:=[(37,uM P),(2,15e8),(4,9e7),(12,gT 12),(13,11e2),(38,o38v2 P),(3,34 S4 194 12 13),(0,13e0),(62,D5 P),(63,D6 P)]
def IU:fH:=(53 4 1 214 54 241 10 11 8 [37,2,4,12,13,38,3,0] 66 257 12 13 8)
noncomputable def ob4(P:ay):dR:=[(37,uM P),(2,15e8),(4,9e7),(12,gT 21),(13,11e2),(38,D7 P),(3,34 nu 273 30 31),(0,13e0),(74,D8 P),(75,D9 P),(83,Ea P),(84,Eb P),(90,Ec P),(91,Ed P)]
def IV:fH:=(53 5 19 418 66 257 12 13 8 [37,2,4,12,13,38,3,0] 92 321 34 35 50)
noncomputable def ob5(P:ay):dR:=[(4,9e7),(3,34 nu 273 43 44),(12,gT 60),(13,11e2),(104,Ee P),(105,Ef P),(139,Eg P),(140,Eh P)]
def IW:fH:=(53 24 13 407 92 321 34 35 50 [4,3,12,13] 183 441 90 94 54)
noncomputable def ob6(P:ay):dR:=[(4,9e7),(3,34 nu 273 56 57),(12,gT 99),(13,11e2)]
def IX:fH:=(53 37 13 405 183 441 90 94 54 [4,3,12,13] 274 559 122 123 28)
noncomputable def ob7(P:ay):dR:=[(4,9e7),(3,34 nu 273 69 70),(12,gT 129),(13,11e2),(316,Ei P),(318,Ej P),(324,Ek P),(325,El P),(331,Em P),(332,En P),(338,Eo P),(339,Ep P)]
def IY:fH:=(53 50 13 395 274 559 122 123 28 [4,3,12,13] 347 650 155 168 43)
noncomputable def ob8(P:ay):dR:=[(4,9e7),(3,34 rz 660 75 76),(12,gT 132),(13,11e2),(352,Er P),(353,Et P)]
def IZ:fH:=(53 63 7 112 347 650 155 168 43 [4,3,12,13] 354 677 182 182 5)
noncomputable def I0(P:ay):dR:=[(3,34 rz 660 76 77)]
def Ap:fH:=(53 70 1 74 354 677 182 182 5 [3] 355 686 183 183 10)
noncomputable def I1(P:ay):dR:=[(3,34 rz 660 77 78)]
def Aq:fH:=(53 71 1 39 355 686 183 183 10 [3] 356 691 184 184 10)
noncomputable def aa6(P:ay):dR:=[(2,15e8),(4,9e7),(3,34 wH 761 87 88),(12,gT 147),(13,11e2),(0,13e0),(363,Eu P),(369,Ev P),(370,Ew P),(372,Ex P),(373,Ey P),(383,Ez P),(384,EA P),(390,EB P),(391,EC P),(397,ED P),(398,EF P)]
def I2:fH:=(53 72 11 407 356 691 184 184 10 [2,4,3,12,13,0] 406 773 210 210 3)
noncomputable def I3(P:ay):dR:=[(3,34 wH 761 88 89),(406,EG P),(407,EH P),(408,EI P),(409,EJ P),(410,EK P),(411,EL P),(412,EM P),(413,EN P),(414,EO P),(415,EP P),(416,EQ P),(417,ER P),(418,ES P)]
def Ar:fH:=(53 83 1 227 406 773 210 210 3 [3] 419 822 211 211 5)
noncomputable def I4(P:ay):dR:=[(3,34 wH 761 89 90),(419,ET P),(420,EU P),(421,EV P),(422,EW P),(423,EX P),(424,EY P),(425,EZ P),(426,E0 P)]
def As:fH:=(53 84 1 130 419 822 211 211 5 [3] 427 844 212 212 6)
noncomputable def aa7(P:ay):dR:=[(4,9e7),(3,34 eT 883 101 102),(12,gT 174),(13,11e2),(432,E1 P),(433,E3 P),(439,E4 P),(440,E5 P),(446,E6 P),(447,E7 P),(451,E8 P),(452,E9 P),(458,Fa P),(459,Fb P),(465,Fc P),(466,Fd P),(470,Fe P),(471,Ff P),(477,Fg P),(478,Fh P)]
def I5:fH:=(53 85 14 320 427 844 212 212 6 [4,3,12,13] 486 934 259 262 22)
noncomputable def aa8(P:ay):dR:=[(2,15e8),(4,9e7),(3,34 eT 883 102 103),(12,gT 177),(13,11e2),(0,13e0),(498,Fi P),(499,Fj P),(505,Fk P),(506,Fl P),(519,Fm P),(520,Fo P),(526,Fp P),(527,Fq P),(533,Fr P),(534,Fs P),(540,Ft P),(541,Fu P),(554,Fv P),(555,Fw P),(561,Fy P),(562,Fz P),(568,FE P),(569,FF P),(575,FG P),(576,FI P),(585,FJ P),(586,FK P)]
def I6:fH:=(53 99 1 624 486 934 259 262 22 [2,4,3,12,13,0] 591 1076 263 321 16)
noncomputable def aa9(P:ay):dR:=[(2,15e8),(4,9e7),(3,34 eT 883 103 104),(12,gT 180),(13,11e2),(0,13e0),(603,FL P),(604,FM P),(610,FN P),(611,FO P),(624,FP P),(625,FQ P),(631,FR P),(632,FS P),(638,FT P),(639,FU P),(645,FV P),(646,FW P),(652,FX P),(653,FY P),(659,FZ P),(660,Ga P),(666,Gb P),(667,Gc P),(676,Gd P),(677,Ge P)]
def I7:fH:=(53 100 1 559 591 1076 263 321 16 [2,4,3,12,13,0] 682 1201 322 372 16)
noncomputable def aba(P:ay):dR:=[(2,15e8),(4,9e7),(3,34 eT 883 104 105),(12,gT 183),(13,11e2),(0,13e0),(694,Gf P),(695,Gg P),(725,Gh P),(726,Gi P)]
def I8:fH:=(53 101 1 352 682 1201 322 372 16 [2,4,3,12,13,0] 731 1263 373 394 16)
noncomputable def abb(P:ay):dR:=[(2,15e8),(4,9e7),(3,34 eT 883 105 106),(12,gT 186),(13,11e2),(0,13e0),(743,Gj P),(744,Gk P),(750,Gl P),(751,Gm P),(753,Gn P),(754,Go P)]
def I9:fH:=(53 102 1 258 731 1263 373 394 16 [2,4,3,12,13,0] 759 1303 395 403 20)
noncomputable def abc(P:ay):dR:=[(2,15e8),(4,9e7),(3,34 eT 883 106 107),(12,gT 189),(13,11e2),(0,13e0),(771,Gp P),(772,Gq P),(778,Gr P),(779,Gs P),(785,Gu P),(786,Gv P),(788,Gw P),(789,Gx P)]
def Ja:fH:=(53 103 1 289 759 1303 395 403 20 [2,4,3,12,13,0] 794 1350 404 417 20)
noncomputable def abd(P:ay):dR:=[(2,15e8),(4,9e7),(3,34 eT 883 107 108),(12,gT 192),(13,11e2),(0,13e0),(806,Gy P),(807,Gz P),(841,GA P),(842,GB P),(848,GC P),(849,GD P),(851,GE P),(852,GF P)]
def Jb:fH:=(53 104 1 426 794 1350 404 417 20 [2,4,3,12,13,0] 857 1438 418 447 32)
noncomputable def abe(P:ay):dR:=[(2,15e8),(4,9e7),(12,gT 195),(13,11e2),(0,13e0),(3,34 gg 1438 111 112),(869,GG P),(870,GH P),(872,GI P),(873,GJ P)]
def Jc:fH:=(53 105 5 261 857 1438 418 447 32 [2,4,12,13,0,3] 878 1477 452 456 26)
noncomputable def abf(P:ay):dR:=[(2,15e8),(4,9e7),(3,34 gg 1438 112 113),(12,gT 198),(13,11e2),(0,13e0),(890,GK P),(891,GL P),(893,GM P),(894,GN P)]
def Jd:fH:=(53 110 1 222 878 1477 452 456 26 [2,4,3,12,13,0] 899 1505 457 460 23)
noncomputable def abg(P:ay):dR:=[(2,15e8),(4,9e7),(3,34 gg 1438 113 114),(12,gT 201),(13,11e2),(0,13e0),(911,GO P),(912,GP P),(921,GQ P),(922,GR P)]
def Je:fH:=(53 111 1 260 899 1505 457 460 23 [2,4,3,12,13,0] 927 1547 461 470 16)
noncomputable def abh(P:ay):dR:=[(2,15e8),(4,9e7),(3,34 gg 1438 114 115),(12,gT 204),(13,11e2),(0,13e0),(939,GS P),(940,GT P),(946,GU P),(947,GV P),(956,GW P),(957,GX P)]
def Jf:fH:=(53 112 1 298 927 1547 461 470 16 [2,4,3,12,13,0] 962 1603 471 489 16)
noncomputable def abi(P:ay):dR:=[(2,15e8),(4,9e7),(3,34 gg 1438 115 116),(12,gT 207),(13,11e2),(0,13e0),(974,GY P),(975,GZ P),(981,G0 P),(982,G1 P),(988,G2 P),(989,G3 P),(997,G5 P),(1003,G6 P),(1004,G7 P),(1010,G8 P),(1011,G9 P),(1017,Ha P),(1018,Hb P),(1031,Hc P),(1032,Hd P),(1038,He P),(1039,Hf P),(1045,Hg P),(1046,Hh P),(1080,Hi P),(1081,Hj P),(1094,Hk P),(1095,Hl P),(1106,Hm P),(1107,Hn P),(1109,Ao P),(1110,o1110 P)]
def Jg:fH:=(53 113 1 865 962 1603 471 489 16 [2,4,3,12,13,0] 1115 1819 490 647 64)
noncomputable def abj(P:ay):dR:=[(2,15e8),(4,9e7),(3,34 gg 1438 116 117),(12,gT 210),(13,11e2),(0,13e0),(1122,Ho P),(1128,Hp P),(1129,Hq P),(1135,Hr P),(1136,Hs P),(1156,Ht P),(1157,Hu P),(1187,Hv P),(1188,Hw P)]
def Jh:fH:=(53 114 1 492 1115 1819 490 647 64 [2,4,3,12,13,0] 1193 1924 648 691 17)
noncomputable def abk(P:ay):dR:=[(3,34 kZ 1924 119 120)]
def Ji:fH:=(53 115 4 37 1193 1924 648 691 17 [3] 1193 1932 695 695 10)
noncomputable def abl(P:ay):dR:=[(1109,Ao P),(2,15e8),(4,9e7),(12,gT 213),(13,11e2),(1110,Hx P),(3,34 kZ 1924 120 121),(0,13e0),(1205,Hy P),(1206,Hz P),(1212,HA P),(1213,HB P),(1219,HC P),(1220,HD P),(1226,HE P),(1227,HF P),(1233,HG P),(1234,HH P),(1240,HI P),(1241,HJ P),(1247,HK P),(1248,HL P),(1254,HM P),(1255,HN P),(1261,HO P),(1262,HP P),(1268,HQ P),(1269,HR P),(1275,HS P),(1276,HT P),(1282,HU P),(1283,HV P),(1289,HW P),(1290,HX P),(1292,HY P),(1293,HZ P)]
def Jj:fH:=(53 119 1 670 1193 1932 695 695 10 [1109,2,4,12,13,1110,3,0] 1296 2093 696 828 71)
noncomputable def abm(P:ay):dR:=[(2,15e8),(4,9e7),(12,gT 228),(13,11e2),(0,13e0),(3,34 gh 2135 125 126),(1308,H0 P),(1309,H1 P),(1318,H2 P),(1319,H4 P),(1329,H5 P),(1330,H6 P),(1336,H7 P),(1337,H8 P),(1343,H9 P),(1344,Ia P),(1350,Ib P),(1351,Ic P)]
def Jk:fH:=(53 120 7 392 1296 2093 696 828 71 [2,4,12,13,0,3] 1352 2165 850 853 62)
noncomputable def abn(P:ay):dR:=[(4,9e7),(3,34 gh 2135 138 139),(12,gT 267),(13,11e2),(1357,Id P),(1358,Ie P),(1362,Ig P),(1363,Ii P),(1369,Ij P),(1370,Ik P),(1376,Il P),(1377,Im P),(1383,Io P),(1384,Ip P),(1388,Iq P),(1389,Ir P),(1391,qp P),(1395,s9 P),(1396,Iu P),(1400,Iv P),(1401,Iw P),(1405,Ix P),(1406,Iy P),(1412,Iz P),(1413,IA P),(1419,IB P),(1420,IC P),(1426,ID P),(1427,IE P),(1433,IF P),(1434,IG P)]
def Jl:fH:=(53 127 13 415 1352 2165 850 853 62 [4,3,12,13] 1435 2301 995 1005 15)
noncomputable def abo(P:ay):dR:=[(4,9e7),(3,34 gh 2135 143 144),(12,gT 282),(13,11e2),(1440,II P),(1441,IJ P),(1447,IK P),(1448,IL P),(1454,IM P),(1455,IO P),(1461,IP P),(1462,IQ P),(1466,IR P),(1467,uN P)]
def kB:fH:=(53 140 5 162 1435 2301 995 1005 15 [4,3,12,13] 1468 2354 1072 1086 70)
noncomputable def F0(P:ay):dR:=[(0,13e0),(2,Jm P),(3,Jn P),(4,9e7)]++IS P
def nx(apu:ay->dR)(g:fH)(ob:ay->dR)(P:ay):dR:=ob P++(apu P).oq λp=>!(g.s4.hU p.1)
noncomputable def F1:=nx F0 ou ta
noncomputable def F2:=nx F1 IT mm
noncomputable def F3:=nx F2 IU ob3
noncomputable def F4:=nx F3 IV ob4
noncomputable def F5:=nx F4 IW ob5
noncomputable def F6:=nx F5 IX ob6
noncomputable def F7:=nx F6 IY ob7
noncomputable def F8:=nx F7 IZ ob8
noncomputable def F9:=nx F8 Ap I0
noncomputable def Jo:=nx F9 Aq I1
noncomputable def F11:=nx Jo I2 aa6
noncomputable def F12:=nx F11 Ar I3
noncomputable def Jp:=nx F12 As I4
noncomputable def Jq:=nx Jp I5 aa7
noncomputable def Jr:=nx Jq I6 aa8
noncomputable def Js:=nx Jr I7 aa9
noncomputable def F17:=nx Js I8 aba
noncomputable def F18:=nx F17 I9 abb
noncomputable def F19:=nx F18 Ja abc
noncomputable def F20:=nx F19 Jb abd
noncomputable def F21:=nx F20 Jc abe
noncomputable def F22:=nx F21 Jd abf
noncomputable def F23:=nx F22 Je abg
noncomputable def F24:=nx F23 Jf abh
noncomputable def F25:=nx F24 Jg abi
noncomputable def F26:=nx F25 Jh abj
noncomputable def F27:=nx F26 Ji abk
noncomputable def F28:=nx F27 Jj abl
noncomputable def F29:=nx F28 Jk abm
noncomputable def F30:=nx F29 Jl abn
noncomputable def F31:=nx F30 kB abo
def TW(g:fH)(apu ob:ay->dR)(w:eA):Prop:=zR ((ob w.bV).aj (·.1)) (wG g w (apu w.bV))=G (.bA,g.n1,g.iA,cT,g.p1,(ob w.bV).aj 52e8)
def TT(g:fH)(apu ob:ay->dR):Prop:=∀w:eA,zR ((ob w.bV).aj (·.1)) (wG g w (apu w.bV))=G (.bA,g.n1,g.iA,cT,g.p1,(ob w.bV).aj 52e8)
def t0:TT ou F0 ta:=λw=>av
def t1:TT IT F1 mm:=λw=>av
def t2:TT IU F2 ob3:=λw=>av
def t3:TT IV F3 ob4:=λw=>av
def t4:TT IW F4 ob5:=λw=>av
def apL:TT IX F5 ob6:=λw=>av
def apM:TT IY F6 ob7:=λw=>av
def apN:TT IZ F7 ob8:=λw=>av
def apO:TT Ap F8 I0:=Jt "special-get-raises" (P:=TW Ap F8 I0) (λw=>by unfold TW;kernel_rfl) λw=>by unfold TW;kernel_rfl
def apP:TT Aq F9 I1:=Jt "special-get-raises" (P:=TW Aq F9 I1) (λw=>by unfold TW;kernel_rfl) λw=>by unfold TW;kernel_rfl
def t10:TT I2 Jo aa6:=λw=>av
def t11:TT Ar F11 I3:=Jt "special-get-raises" (P:=TW Ar F11 I3) (λw=>by unfold TW;kernel_rfl) λw=>by unfold TW;kernel_rfl
def t12:TT As F12 I4:=Jt "special-get-raises" (P:=TW As F12 I4) (λw=>by unfold TW;kernel_rfl) λw=>by unfold TW;kernel_rfl
def t13:TT I5 Jp aa7:=λw=>av
def t14:TT I6 Jq aa8:=λw=>av
def t15:TT I7 Jr aa9:=λw=>av
def t16:TT I8 Js aba:=λw=>av
def t17:TT I9 F17 abb:=λw=>av
def t18:TT Ja F18 abc:=λw=>av
def t19:TT Jb F19 abd:=λw=>av
def t20:TT Jc F20 abe:=λw=>av
def t21:TT Jd F21 abf:=λw=>av
def t22:TT Je F22 abg:=λw=>av
def t23:TT Jf F23 abh:=λw=>av
def t24:TT Jg F24 abi:=λw=>av
def t25:TT Jh F25 abj:=λw=>av
def t26:TT Ji F26 abk:=λw=>av
def t27:TT Jj F27 abl:=λw=>av
def t28:TT Jk F28 abm:=λw=>av
def t29:TT Jl F29 abn:=λw=>av
def t30:TT kB F30 abo:=λw=>av
def wY(g6:fQ->b5 PySem.ky)(s:jF->al)(F:zL):I->Sp->jF->ar (Sp×jF)
 |0,S,t=>G (S,t)
 |n+1,S,t=>match Pi t with
  |true=>L
  |false=>match s t with
   |false=>L
   |true=>match sX g6 F S t with
    |G r=>wY g6 s F n r.1 r.2
    |L=>L
def ZB(g6:fQ->b5 PySem.ky)(s:jF->al)(F:zL)(n:I)(S:Sp)(t:jF):wY g6 s F (n+1) S t=cC (Pi t) L (cC (s t) ((sX g6 F S t).cr λr=>wY g6 s F n r.1 r.2) L):=av
def ZC{tb:fS->ar Builtin}:∀{S x:Sp} {t t':jF} {s:ae},
  wY (rr tb) (zM n₀ ann) ⟨p,w.bV⟩ n S t=G (x,t')->rq S s->
  ∃s',topGo tb p w n₀ ann n s t=G (s',t')/\nr S x s s':=by
 induction n with
 |i4=>intro S x t t' s h R;cases h;exact⟨s,H,.fE R⟩
 |hG n k=>
  intro S x t t' s h R;rw[ZB]at h;unfold topGo;cases a:Pi t with
  |true=>rw[a]at h;cases h
  |false=>
   rw[a]at h;cases e:zM n₀ ann t with
   |false=>rw[e]at h;cases h
   |true=>
    rw[e]at h;have z:=OL (g6:=rr tb) (p:=p) (w:=w) (t:=t) R;cases hs:sX (rr tb) ⟨p,w.bV⟩ S t with
    |L=>rw[hs]at h;cases h
    |G r=>
     rw[hs]at h z;(show aN z λm e1 A=>?_;try clear z);show aN (k h A.N) λb e2 B=>?_;exact⟨b,by dsimp only;rw[e1];exact e2,A.aV B⟩
noncomputable def B0(P:ay):dR:=[(0,13e0),(2,Jm P),(3,Jn P),(4,9e7),(1,boot_o_1 P),(5,boot_o_5 P),(6,boot_o_6 P)]
noncomputable def Ju(w:eA):ar (Sp×jF):=wY dn wF ⟨pw,w.bV⟩ 12 ⟨B0 w.bV,11,181⟩ (topStub pw)
def ZD(w:eA):(Ju w).aj (λx=>(x.1.n,x.1.tk,x.2,[0,2,3,4,12,13].aj (jD x.1.kt)))=
  G (15,187,⟨dn cT,cT,ou.p0,[uL sZ]⟩,((F0 w.bV).aj 52e8)):=av
def Jv:dn=rr wZ:=by
 unfold dn;rw[<-PySem.W.np.te11892475500146522536,<-PySem.W.np.te14364793385576792824]
def Jw:wF=zM 11 (47 6):=by
 unfold wF;rw[<-PySem.W.np.te6613529449190102663]
def ZE(w:eA)(S:Sp):sY dn wF ⟨pw,w.bV⟩ 1 S (blockOf (zQ pw) uK cT ou.p0 [uL sZ])=G (.bA,S,cT,ou.p0):=by
 kernel_rfl
abbrev g9(h:ai)(apu:dR):Prop:=∀p∈apu,h.ao p.1=37e7
structure St(s₀ s:ae)(apu:dR)(n tk:I):Prop where
 d8:g9 s.M apu
 an:s.M.O.an=n
 a1:s.a1=tk
 dD:s.dD=s₀.dD
 on:s.on=s₀.on
 os:s.os=s₀.os
abbrev AN:12e4:=47 6
def ZF(t:zR (ob.aj (·.1)) (wG g w apu)=G (.bA,g.n1,g.iA,cT,g.p1,ob.aj 52e8))(apy:St s₀ s apu g.n0 g.s3):
  ∃s',DR wZ pw w 11 AN 1 g.apC s (piecesOf (zP g.s g.k) uK cT g.p0 [uL sZ])=G (.bA,s',cT,g.p1)/\St s₀ s' (ob++apu.oq λp=>!(g.s4.hU p.1)) g.n1 g.iA:=by
 unfold zR at t;cases hr:wG g w apu with
 |L=>rw[hr]at t;cases t
 |G r=>
  obtain(⟨f,u,c,q⟩):=r;rw[hr]at t;simp only[ar.tc,ar.G.fu,kC.mk.fu]at t;(show zr t λn e1 e2 v i e3=>?_;try clear t;subst n;subst v;subst i);unfold wG at hr;rw[Jv,Jw]at hr;have R:rq ⟨DW apu g.s4,g.n0,g.s3⟩ s:=⟨apy.an,apy.a1,λa o e=>apy.d8 _ (D.rA.mp (DP e)).1⟩;(show aN (OM hr R) λs' k1 m=>?_;obtain(⟨b,x,_,_⟩):=m);show⟨s',k1,λp h=>?_,b.an.aV e1,b.a1.aV e2,x.dD.aV apy.dD,x.on.aV apy.on,x.os.aV apy.os⟩;rcases D.lI.mp h with h|h
  ·have e4:ob.aj (λp=>jD u.kt p.1)=ob.aj λp=>37e7:=by rw[<-e3,D.rB];rfl
   exact b.jE _ _ (D.gG.mp e4 p h)
  ·show oA (D.rA.mp h) λh k=>?_;show x.bS _ _ (apy.d8 p h) ?_;cases q:jD (DW apu g.s4) p.1 with
   |L=>rfl
   |G o=>
    rw[(D.rA.mp (DP q)).2]at k;cases k
abbrev ZG(w:eA)(s₀:ae)(apu:dR)(n tk:I)(apC:I)(s:ae)(t:jF):Prop:=∃r,Pj wZ pw w 11 AN apC s t=G r/\St s₀ r apu n tk
def fin_run(p:dA):Pj wZ pw w 11 AN 3 s ⟨doneF .bA,cT,p,[uL sZ]⟩=G s:=by
 obtain(⟨h,dD,on,a1,os⟩):=s;rfl
def CC(g:fH)(apu:ay->dR):Prop:=∀{w:eA} {s₀ s:ae},St s₀ s (apu w.bV) g.n0 g.s3->∃apC,ZG w s₀ (F31 w.bV) kB.n1 kB.iA apC s (restOf (pw.rt.cX.fh g.s) uK cT g.p0 [uL sZ])
def cc{apu ob:ay->dR}(t:TT g apu ob)(h:g.s+g.k=g'.s)(e:g.n1=g'.n0/\g.iA=g'.s3/\g.p1=g'.p0)(c:CC g' (nx apu g ob)):CC g apu:=λ{w s₀ s} apy=>by
 show aN (ZF (t w) apy) λs' h1 a=>?_;(show hT e λe1 e2 e3=>?_;try clear e);show gd (c (e1▸e2▸a)) λapC r h2 x=>?_;show⟨g.apC+apC,r,?_,x⟩;have q:pw.rt.cX.fh g.s=zP g.s g.k++pw.rt.cX.fh g'.s:=by
  unfold zP;rw[<-h,<-D.ZH,D.Jx]
 rw[q];exact piece_app h1 (e3▸h2)
def gE:fH:={kB with s:=145,n0:=kB.n1,s3:=kB.iA,p0:=kB.p1}
def ZI:CC gE F31:=λ{w s₀ s} apy=>by
 have e:pw.rt.cX.fh gE.s=[]:=av;rw[e];exact⟨_,s,piece_nil (fin_run _),apy⟩
def ZJ:CC kB F30:=cc (g':=gE) t30 H ⟨H,H,H⟩ ZI
def ZK:CC Jl F29:=59 t29 ZJ
def ZL:CC Jk F28:=59 t28 ZK
def ZM:CC Jj F27:=59 t27 ZL
def ZN:CC Ji F26:=59 t26 ZM
def ZO:CC Jh F25:=59 t25 ZN
def ZP:CC Jg F24:=59 t24 ZO
def ZQ:CC Jf F23:=59 t23 ZP
def ZR:CC Je F22:=59 t22 ZQ
def ZS:CC Jd F21:=59 t21 ZR
def ZT:CC Jc F20:=59 t20 ZS
def ZU:CC Jb F19:=59 t19 ZT
def ZV:CC Ja F18:=59 t18 ZU
def ZW:CC I9 F17:=59 t17 ZV
def ZX:CC I8 Js:=59 t16 ZW
def ZY:CC I7 Jr:=59 t15 ZX
def ZZ:CC I6 Jq:=59 t14 ZY
def c13:CC I5 Jp:=59 t13 ZZ
def c12:CC As F12:=59 t12 c13
def c11:CC Ar F11:=59 t11 c12
def c10:CC I2 Jo:=59 t10 c11
def apQ:CC Aq F9:=59 apP c10
def apR:CC Ap F8:=59 apO apQ
def apS:CC IZ F7:=59 apN apR
def apT:CC IY F6:=59 apM apS
def apU:CC IX F5:=59 apL apT
def c4:CC IW F4:=59 t4 apU
def c3:CC IV F3:=59 t3 c4
def c2:CC IU F2:=59 t2 c3
def c1:CC IT F1:=59 t1 c2
def c0:CC ou F0:=59 t0 c1
noncomputable def KW(P:ay):dR:=[(4,9e7),
 (3,34 gh 2135 143 144),
 (12,gT 282),
 (13,11e2),
 (1440,II P),
 (1441,IJ P),
 (1447,IK P),
 (1448,IL P),
 (1454,IM P),
 (1455,IO P),
 (1461,IP P),
 (1462,IQ P),
 (1466,IR P),
 (1467,uN P),
 (1357,Id P),
 (1358,Ie P),
 (1362,Ig P),
 (1363,Ii P),
 (1369,Ij P),
 (1370,Ik P),
 (1376,Il P),
 (1377,Im P),
 (1383,Io P),
 (1384,Ip P),
 (1388,Iq P),
 (1389,Ir P),
 (1391,qp P),
 (1395,s9 P),
 (1396,Iu P),
 (1400,Iv P),
 (1401,Iw P),
 (1405,Ix P),
 (1406,Iy P),
 (1412,Iz P),
 (1413,IA P),
 (1419,IB P),
 (1420,IC P),
 (1426,ID P),
 (1427,IE P),
 (1433,IF P),
 (1434,IG P),
 (2,15e8),
 (0,13e0),
 (1308,H0 P),
 (1309,H1 P),
 (1318,H2 P),
 (1319,H4 P),
 (1329,H5 P),
 (1330,H6 P),
 (1336,H7 P),
 (1337,H8 P),
 (1343,H9 P),
 (1344,Ia P),
 (1350,Ib P),
 (1351,Ic P),
 (1109,Ao P),
 (1110,Hx P),
 (1205,Hy P),
 (1206,Hz P),
 (1212,HA P),
 (1213,HB P),
 (1219,HC P),
 (1220,HD P),
 (1226,HE P),
 (1227,HF P),
 (1233,HG P),
 (1234,HH P),
 (1240,HI P),
 (1241,HJ P),
 (1247,HK P),
 (1248,HL P),
 (1254,HM P),
 (1255,HN P),
 (1261,HO P),
 (1262,HP P),
 (1268,HQ P),
 (1269,HR P),
 (1275,HS P),
 (1276,HT P),
 (1282,HU P),
 (1283,HV P),
 (1289,HW P),
 (1290,HX P),
 (1292,HY P),
 (1293,HZ P),
 (1122,Ho P),
 (1128,Hp P),
 (1129,Hq P),
 (1135,Hr P),
 (1136,Hs P),
 (1156,Ht P),
 (1157,Hu P),
 (1187,Hv P),
 (1188,Hw P),
 (974,GY P),
 (975,GZ P),
 (981,G0 P),
 (982,G1 P),
 (988,G2 P),
 (989,G3 P),
 (997,G5 P),
 (1003,G6 P),
 (1004,G7 P),
 (1010,G8 P),
 (1011,G9 P),
 (1017,Ha P),
 (1018,Hb P),
 (1031,Hc P),
 (1032,Hd P),
 (1038,He P),
 (1039,Hf P),
 (1045,Hg P),
 (1046,Hh P),
 (1080,Hi P),
 (1081,Hj P),
 (1094,Hk P),
 (1095,Hl P),
 (1106,Hm P),
 (1107,Hn P),
 (939,GS P),
 (940,GT P),
 (946,GU P),
 (947,GV P),
 (956,GW P),
 (957,GX P),
 (911,GO P),
 (912,GP P),
 (921,GQ P),
 (922,GR P),
 (890,GK P),
 (891,GL P),
 (893,GM P),
 (894,GN P),
 (869,GG P),
 (870,GH P),
 (872,GI P),
 (873,GJ P),
 (806,Gy P),
 (807,Gz P),
 (841,GA P),
 (842,GB P),
 (848,GC P),
 (849,GD P),
 (851,GE P),
 (852,GF P),
 (771,Gp P),
 (772,Gq P),
 (778,Gr P),
 (779,Gs P),
 (785,Gu P),
 (786,Gv P),
 (788,Gw P),
 (789,Gx P),
 (743,Gj P),
 (744,Gk P),
 (750,Gl P),
 (751,Gm P),
 (753,Gn P),
 (754,Go P),
 (694,Gf P),
 (695,Gg P),
 (725,Gh P),
 (726,Gi P),
 (603,FL P),
 (604,FM P),
 (610,FN P),
 (611,FO P),
 (624,FP P),
 (625,FQ P),
 (631,FR P),
 (632,FS P),
 (638,FT P),
 (639,FU P),
 (645,FV P),
 (646,FW P),
 (652,FX P),
 (653,FY P),
 (659,FZ P),
 (660,Ga P),
 (666,Gb P),
 (667,Gc P),
 (676,Gd P),
 (677,Ge P),
 (498,Fi P),
 (499,Fj P),
 (505,Fk P),
 (506,Fl P),
 (519,Fm P),
 (520,Fo P),
 (526,Fp P),
 (527,Fq P),
 (533,Fr P),
 (534,Fs P),
 (540,Ft P),
 (541,Fu P),
 (554,Fv P),
 (555,Fw P),
 (561,Fy P),
 (562,Fz P),
 (568,FE P),
 (569,FF P),
 (575,FG P),
 (576,FI P),
 (585,FJ P),
 (586,FK P),
 (432,E1 P),
 (433,E3 P),
 (439,E4 P),
 (440,E5 P),
 (446,E6 P),
 (447,E7 P),
 (451,E8 P),
 (452,E9 P),
 (458,Fa P),
 (459,Fb P),
 (465,Fc P),
 (466,Fd P),
 (470,Fe P),
 (471,Ff P),
 (477,Fg P),
 (478,Fh P),
 (419,ET P),
 (420,EU P),
 (421,EV P),
 (422,EW P),
 (423,EX P),
 (424,EY P),
 (425,EZ P),
 (426,E0 P),
 (406,EG P),
 (407,EH P),
 (408,EI P),
 (409,EJ P),
 (410,EK P),
 (411,EL P),
 (412,EM P),
 (413,EN P),
 (414,EO P),
 (415,EP P),
 (416,EQ P),
 (417,ER P),
 (418,ES P),
 (363,Eu P),
 (369,Ev P),
 (370,Ew P),
 (372,Ex P),
 (373,Ey P),
 (383,Ez P),
 (384,EA P),
 (390,EB P),
 (391,EC P),
 (397,ED P),
 (398,EF P),
 (352,Er P),
 (353,Et P),
 (316,Ei P),
 (318,Ej P),
 (324,Ek P),
 (325,El P),
 (331,Em P),
 (332,En P),
 (338,Eo P),
 (339,Ep P),
 (104,Ee P),
 (105,Ef P),
 (139,Eg P),
 (140,Eh P),
 (37,uM P),
 (38,D7 P),
 (74,D8 P),
 (75,D9 P),
 (83,Ea P),
 (84,Eb P),
 (90,Ec P),
 (91,Ed P),
 (62,D5 P),
 (63,D6 P),
 (50,D3 P),
 (51,D4 P),
 (34,D1 P),
 (35,D2 P)]
noncomputable def KL(P:ay):dR:=[(4,9e7),
 (3,34 gh 2135 143 144),
 (12,gT 282),
 (13,11e2),
 (1440,II P),
 (1441,IJ P),
 (1447,IK P),
 (1448,IL P),
 (1454,IM P),
 (1455,IO P),
 (1461,IP P),
 (1462,IQ P),
 (1466,IR P),
 (1467,uN P),
 (1357,Id P),
 (1358,Ie P),
 (1362,Ig P),
 (1363,Ii P),
 (1369,Ij P),
 (1370,Ik P),
 (1376,Il P),
 (1377,Im P),
 (1383,Io P),
 (1384,Ip P),
 (1388,Iq P),
 (1389,Ir P),
 (1395,s9 P),
 (1396,Iu P),
 (1400,Iv P),
 (1401,Iw P),
 (1405,Ix P),
 (1406,Iy P),
 (1412,Iz P),
 (1413,IA P),
 (1419,IB P),
 (1420,IC P),
 (1426,ID P),
 (1427,IE P),
 (1433,IF P),
 (1434,IG P),
 (2,15e8),
 (0,13e0),
 (1308,H0 P),
 (1309,H1 P),
 (1318,H2 P),
 (1319,H4 P),
 (1329,H5 P),
 (1330,H6 P),
 (1336,H7 P),
 (1337,H8 P),
 (1343,H9 P),
 (1344,Ia P),
 (1350,Ib P),
 (1351,Ic P),
 (1109,Ao P),
 (1110,Hx P),
 (1205,Hy P),
 (1206,Hz P),
 (1212,HA P),
 (1213,HB P),
 (1219,HC P),
 (1220,HD P),
 (1226,HE P),
 (1227,HF P),
 (1233,HG P),
 (1234,HH P),
 (1240,HI P),
 (1241,HJ P),
 (1247,HK P),
 (1248,HL P),
 (1254,HM P),
 (1255,HN P),
 (1261,HO P),
 (1262,HP P),
 (1268,HQ P),
 (1269,HR P),
 (1275,HS P),
 (1276,HT P),
 (1282,HU P),
 (1283,HV P),
 (1289,HW P),
 (1290,HX P),
 (1292,HY P),
 (1293,HZ P),
 (1122,Ho P),
 (1128,Hp P),
 (1129,Hq P),
 (1135,Hr P),
 (1136,Hs P),
 (1156,Ht P),
 (1157,Hu P),
 (1187,Hv P),
 (1188,Hw P),
 (974,GY P),
 (975,GZ P),
 (981,G0 P),
 (982,G1 P),
 (988,G2 P),
 (989,G3 P),
 (997,G5 P),
 (1003,G6 P),
 (1004,G7 P),
 (1010,G8 P),
 (1011,G9 P),
 (1017,Ha P),
 (1018,Hb P),
 (1031,Hc P),
 (1032,Hd P),
 (1038,He P),
 (1039,Hf P),
 (1045,Hg P),
 (1046,Hh P),
 (1080,Hi P),
 (1081,Hj P),
 (1094,Hk P),
 (1095,Hl P),
 (1106,Hm P),
 (1107,Hn P),
 (939,GS P),
 (940,GT P),
 (946,GU P),
 (947,GV P),
 (956,GW P),
 (957,GX P),
 (911,GO P),
 (912,GP P),
 (921,GQ P),
 (922,GR P),
 (890,GK P),
 (891,GL P),
 (893,GM P),
 (894,GN P),
 (869,GG P),
 (870,GH P),
 (872,GI P),
 (873,GJ P),
 (806,Gy P),
 (807,Gz P),
 (841,GA P),
 (842,GB P),
 (848,GC P),
 (849,GD P),
 (851,GE P),
 (852,GF P),
 (771,Gp P),
 (772,Gq P),
 (778,Gr P),
 (779,Gs P),
 (785,Gu P),
 (786,Gv P),
 (788,Gw P),
 (789,Gx P),
 (743,Gj P),
 (744,Gk P),
 (750,Gl P),
 (751,Gm P),
 (753,Gn P),
 (754,Go P),
 (694,Gf P),
 (695,Gg P),
 (725,Gh P),
 (726,Gi P),
 (603,FL P),
 (604,FM P),
 (610,FN P),
 (611,FO P),
 (624,FP P),
 (625,FQ P),
 (631,FR P),
 (632,FS P),
 (638,FT P),
 (639,FU P),
 (645,FV P),
 (646,FW P),
 (652,FX P),
 (653,FY P),
 (659,FZ P),
 (660,Ga P),
 (666,Gb P),
 (667,Gc P),
 (676,Gd P),
 (677,Ge P),
 (498,Fi P),
 (499,Fj P),
 (505,Fk P),
 (506,Fl P),
 (519,Fm P),
 (520,Fo P),
 (526,Fp P),
 (527,Fq P),
 (533,Fr P),
 (534,Fs P),
 (540,Ft P),
 (541,Fu P),
 (554,Fv P),
 (555,Fw P),
 (561,Fy P),
 (562,Fz P),
 (568,FE P),
 (569,FF P),
 (575,FG P),
 (576,FI P),
 (585,FJ P),
 (586,FK P),
 (432,E1 P),
 (433,E3 P),
 (439,E4 P),
 (440,E5 P),
 (446,E6 P),
 (447,E7 P),
 (451,E8 P),
 (452,E9 P),
 (458,Fa P),
 (459,Fb P),
 (465,Fc P),
 (466,Fd P),
 (470,Fe P),
 (471,Ff P),
 (477,Fg P),
 (478,Fh P),
 (419,ET P),
 (420,EU P),
 (421,EV P),
 (422,EW P),
 (423,EX P),
 (424,EY P),
 (425,EZ P),
 (426,E0 P),
 (406,EG P),
 (407,EH P),
 (408,EI P),
 (409,EJ P),
 (410,EK P),
 (411,EL P),
 (412,EM P),
 (413,EN P),
 (414,EO P),
 (415,EP P),
 (416,EQ P),
 (417,ER P),
 (418,ES P),
 (363,Eu P),
 (369,Ev P),
 (370,Ew P),
 (372,Ex P),
 (373,Ey P),
 (383,Ez P),
 (384,EA P),
 (390,EB P),
 (391,EC P),
 (397,ED P),
 (398,EF P),
 (352,Er P),
 (353,Et P),
 (316,Ei P),
 (318,Ej P),
 (324,Ek P),
 (325,El P),
 (331,Em P),
 (332,En P),
 (338,Eo P),
 (339,Ep P),
 (104,Ee P),
 (105,Ef P),
 (139,Eg P),
 (140,Eh P),
 (37,uM P),
 (38,D7 P),
 (74,D8 P),
 (75,D9 P),
 (83,Ea P),
 (84,Eb P),
 (90,Ec P),
 (91,Ed P),
 (62,D5 P),
 (63,D6 P),
 (50,D3 P),
 (51,D4 P),
 (34,D1 P),
 (35,D2 P)]
def KL_eq(P:ay):F31 P=KW P:=av
def Z0(P:ay):KW P=(8e0).fG 26++(1391,qp P)::(8e0).fh 26:=av
def At(P:ay):∀p∈KL P,p∈KW P:=by
 intro p s;rw[Z0];rw[<-D.Jx 26 8e0]at s;rcases D.lI.mp s with h|h
 ·exact D.w0 _ h
 ·exact D.uO _ (54 h)
def top_run(h:s₀.M=boot_heap w.bV)(u:s₀.a1=181):
  ∃apC r,Pj wZ pw w 11 AN apC s₀ (topStub pw)=G r/\St s₀ r 40e1 kB.n1 kB.iA:=by
 have p:=ZD w;cases hr:Ju w with
 |L=>rw[hr]at p;cases p
 |G x=>
  obtain⟨S,t⟩:=x;rw[hr]at p;simp only[ar.tc,ar.G.fu,kC.mk.fu]at p;(show lG p λe1 e2 v e3=>?_;try clear p;subst v);unfold Ju at hr;rw[Jv,Jw]at hr;have R:rq ⟨B0 w.bV,11,181⟩ s₀:=⟨by rw[h];rfl,u,λa o e=>by
   have n:=DP e
   rw[h]
   clear e
   simp only[B0,D.eR,D.mn,mo,kC.mk.fu]at n
   rcases n with⟨H,H⟩|⟨H,H⟩|⟨H,H⟩|⟨H,H⟩|⟨H,H⟩|⟨H,H⟩|⟨H,H⟩<;>rfl⟩
  (show aN (ZC hr R) λm k1 v=>?_;obtain(⟨s,k,_,_⟩):=v);have apy:St s₀ m (F0 w.bV) ou.n0 ou.s3:=⟨λp n=>by
   have e4:(F0 w.bV).aj (λp=>jD S.kt p.1)=(F0 w.bV).aj λp=>37e7:=by
    rw[<-e3];rfl
   exact s.jE _ _ (D.gG.mp e4 p n),s.an.aV e1,s.a1.aV e2,k.dD,k.on,k.os⟩
  clear k;show gd (c0 apy) λapC r k2 q=>?_;clear apy;have b:=ZE w S;rw[Jv,Jw]at b;show aN (OM b s) λj k3 l=>?_;have e5:j=m:=by
   have:DR wZ pw w 11 AN 1 1 m (blockOf (zQ pw) uK cT ou.p0 [uL sZ])=G (.bA,m,cT,ou.p0):=cI;rw[bb]at k3;simp only[ar.G.fu,kC.mk.fu]at k3;exact k3.2.1.bi
  subst e5;have i:zQ pw=pw.rt.cX.fh ou.s:=av;show⟨_,r,go_top k1 (piece_block (b:=zQ pw) k3 (by rw[i];exact k2)),?_⟩;rw[KL_eq]at q;exact q
universe e
section
open PySem PySem.W PyProof.Rows PySem.Calls PySem.Spec
set_option backward.match.sparseCases false
abbrev rC:OD:=PySem.Challenge.rw_nm0174_01
section
variable{P:ay}{h:ai}(A:g9 h (KL P))
include A
def pf(a:I)(o:aA)(hm:(8e0).nv (352 a)=G (a,o)):14e4=0e4:=A _ (D.uP hm)
def k0:h.ao mU=G 13e0:=pf A 0 _ av
def k2:h.ao rD=G 15e8:=pf A 2 _ av
def k3:h.ao iB=G (34 gh 2135 143 144):=pf A 3 _ av
def k4:h.ao 4=G 9e7:=pf A 4 _ av
def pg:h.ov iB=true:=by unfold ai.ov;rw[k3 A];kernel_rfl
def Au:h.ov mU=true:=by unfold ai.ov;rw[k0 A];kernel_rfl
def Jy:h.ov rD=true:=by unfold ai.ov;rw[k2 A];kernel_rfl
def acc_ok:h.abs []=true:=by
 have e:h.uQ rD=[S2,S3]:=by unfold ai.uQ;rw[k2 A];kernel_rfl
 unfold ai.abs;rw[Jy A,e];kernel_rfl
def abt(e2:h₀.ao rD=G (Jm P)):staticsOk [] h₀ h=true:=by
 have e:h.uQ rD=[S2,S3]:=by unfold ai.uQ;rw[k2 A];kernel_rfl
 have e0:h₀.uQ rD=[]:=by unfold ai.uQ;rw[e2];kernel_rfl
 have n0:h₀.ov rD=true:=by unfold ai.ov;rw[e2];kernel_rfl
 have s:(S2.opensWith "type.__subclasses__.")=true:=av;have x:(S3.opensWith "type.__subclasses__.")=true:=av;unfold staticsOk;rw[n0,Jy A,e,e0];simp only[D.uR,D.td,D.all_nil,s,x,al.true_or,al.te,al.Pk]
def abu:namesBound pw h=true:=by
 unfold namesBound;rw[pg A];unfold ai.uQ;rw[k3 A];kernel_rfl
def abv(e3:h₀.ao iB=G (Jn P)):laidKept h₀ h=true:=by
 have n0:h₀.ov iB=true:=by unfold ai.ov;rw[e3];kernel_rfl
 unfold laidKept;rw[n0,pg A];unfold ai.jG;rw[e3,k3 A];kernel_rfl
def abw:h.bltView=bltViewBooted:=by
 unfold ai.bltView ai.nsPairs;rw[k0 A];kernel_rfl
def glb:builtinsGlobalAsBooted h:=by
 show⟨4,9e7,?_,k4 A,av,av⟩;rw[Pin.Pl (pg A)];unfold ai.jG;rw[k3 A];kernel_rfl
def abx:isTheDefsW pw h 51e7:=by
 show⟨1467,uN P,zN (eh 144) wX .L (.ag gh 2135) (.N 1466),DT (eh 144),uJ (eh 144),DU (eh 144),?_,pf A 1467 _ av,av,av,av,av,av,av,av,av,av,av,.a4 ⟨av,av⟩,[],av,.a4 (238 av)⟩;rw[Pin.Pl (pg A)];unfold ai.jG;rw[k3 A];kernel_rfl
universe e
def Pm(w:eA):(∃s,AfterRun (opening pw) w s)/\∀s,AfterRun (opening pw) w s->∃s₀,fenceModules? pw s=G s₀/\s₀.dD= #[]/\∃r,TopRan pw w s₀ r/\r.Jz/\r.dD= #[]/\g9 r.M 40e1/\r.M.O.an=kB.n1:=by
 have h:=boot_open (p:=pw) (apC:=1000) av cI (λs=>av) w;rw[<-aby]at h;show aN (ar.ha.mp h) λs₀ h2 e=>?_;simp only[kC.mk.fu]at e;(show lG e λk d apA t=>?_;try clear e);show aN (ar.k7.mp h2) λs v j=>?_;have A:=AfterImport.of_importEnds v;clear v;show⟨⟨s,A⟩,λs' R=>?_⟩;obtain H:s'=s:=AfterImport.unique R A;have z:s₀.Jz:=ae.Pn (fence_lifeW j) A.sW;show gd (top_run (s₀:=s₀) k (by rw[t];kernel_rfl)) λapC r hr apy=>?_;rw[<-aby]at hr;show lG (topRun_spec _ _ _ _ z hr) λa l os fr=>?_;have c:=apy.d8;have apu:g9 r.M (KL w.bV):=λp app=>c p (At _ p app);have g1:r.dD= #[]:=apy.dD.aV d;have n:importedModules pw.rt.cX=[]:=av;have e2:s₀.M.ao rD=G (Jm w.bV):=by rw[k];rfl
 have e3:s₀.M.ao iB=G (Jn w.bV):=by rw[k];rfl
 have apq:s₀.M.ov iB=true:=by unfold ai.ov;rw[e3];kernel_rfl
 have P:s₀.M.jG iB "__annotations__" =47 6:=by unfold ai.jG;rw[e3];kernel_rfl
 have f:s₀.M.O.an=11:=by rw[k];rfl
 show⟨s₀,j,d,r,⟨a,l,ae.rest_eq os,λb o i m=>fr b o (f▸ai.cQ i) (λq=>m (.a4 q)) (λq=>m (.aE (.a4 q))) (λq=>m (78 ((Pin.Pl apq _).aV (P.aV q)))) i,
  ?_,?_,Pin.keysAreStrs_of (pg apu),λx S=>(Pin.builtinOf_eq (Au apu) x).aV (ai.of_bltView (Au apu) (abw apu) x S),glb apu,λg u=>by rw[g1]at u;simp at u,names_of_bound (abu apu),laid_of_kept (abv apu e3)⟩,ae.Pn l z,g1,c,apy.an⟩
 ·rw[n];exact ai.accountedI_of_ok (acc_ok apu)
 ·rw[n];exact statics_of_ok (abt apu e2)
abbrev jH:RowW:=rC.bx.toRowW
universe e
section
open PySem PySem.W PyProof.Rows
set_option backward.match.sparseCases false
namespace BA
def k8:JA.owners.bZ (fS.ofList ['y','a','r','r','a','e','t','y','b'].er)=G JA.sig_bytearray:=av
def JD:342 "__getitem__" "bytearray.__getitem__" :=
 347 "__getitem__" kF
  (by first|exact .a4 (by decide+cn)|exact .aE (by decide+cn)) (30e8)
def abz:342 "__setitem__" "bytearray.__setitem__" :=
 347 "__setitem__" kF
  (by first|exact .a4 (by decide+cn)|exact .aE (by decide+cn)) (30e8)
def JG:342 "__len__" "bytearray.__len__" :=
 347 "__len__" kF
  (by first|exact .a4 (by decide+cn)|exact .aE (by decide+cn)) (30e8)
def Po:342 "__iter__" "bytearray.__iter__" :=
 347 "__iter__" kF
  (by first|exact .a4 (by decide+cn)|exact .aE (by decide+cn)) (30e8)
def abA:342 "__init__" "bytearray.__init__" :=
 347 "__init__" kF
  (by first|exact .a4 (by decide+cn)|exact .aE (by decide+cn)) (30e8)
def JH:342 "extend" "bytearray.extend" :=
 347 "extend" kF
  (by first|exact .a4 (by decide+cn)|exact .aE (by decide+cn)) (30e8)
def abB:mV lJ "bytearray.__getitem__" =G Builtin.«bytearray.__getitem__»:=uS av
def abC:mV lJ "bytearray.__setitem__" =G Builtin.«bytearray.__setitem__»:=uS av
def entry_len:mV lJ "bytearray.__len__" =G Builtin.«bytearray.__len__»:=uS av
def abD:mV lJ "bytearray.__iter__" =G Builtin.«bytearray.__iter__»:=uS av
def abE:mV lJ "bytearray.__init__" =G Builtin.«bytearray.__init__»:=uS av
def abF:mV lJ "bytearray.extend" =G Builtin.«bytearray.extend»:=uS av
def abG(a b:af):kG "bytearray.__getitem__" (61 [a,b]):=by
 unfold kG;rw[313 "bytearray.__getitem__" ['_','_','m','e','t','i','t','e','g','_','_'] ['y','a','r','r','a','e','t','y','b'] k8];kernel_rfl
def abH(a b c:af):kG "bytearray.__setitem__" (61 [a,b,c]):=by
 unfold kG;rw[313 "bytearray.__setitem__" ['_','_','m','e','t','i','t','e','s','_','_'] ['y','a','r','r','a','e','t','y','b'] k8];kernel_rfl
def abI(a:af):kG "bytearray.__len__" (61 [a]):=by
 unfold kG;rw[313 "bytearray.__len__" ['_','_','n','e','l','_','_'] ['y','a','r','r','a','e','t','y','b'] k8];kernel_rfl
def abJ(a:af):kG "bytearray.__iter__" (61 [a]):=by
 unfold kG;rw[313 "bytearray.__iter__" ['_','_','r','e','t','i','_','_'] ['y','a','r','r','a','e','t','y','b'] k8];kernel_rfl
def abK(a b:af):kG "bytearray.__init__" (61 [a,b]):=by
 unfold kG;rw[313 "bytearray.__init__" ['_','_','t','i','n','i','_','_'] ['y','a','r','r','a','e','t','y','b'] k8];kernel_rfl
def abL(a b:af):kG "bytearray.extend" (61 [a,b]):=by
 unfold kG;rw[313 "bytearray.extend" ['d','n','e','t','x','e'] ['y','a','r','r','a','e','t','y','b'] k8];kernel_rfl
universe e BA
universe e
section
open PySem PySem.W PyProof.Rows PySem.Spec PySem.SeqAt Builtin
set_option backward.match.sparseCases false
section
variable{bc:gR}{w:eA}{A:dg}{E:af->ae->Prop}{s:ae}
def JI{a:aI}{l u:af}{lo r:8e5}{Q:af×af×af->ae->Prop}(b:s.M.rE a l u .L)(p:la l lo)(k:la u r)
  (h:Q (uT lo,uT r,uT L) s):41 (dL.Pp 2e2):=by
 (show dV b λo e n hd=>?_;try clear b);unfold dL.Pp;show cL (hF (x:= .L) e hd H λm=>?_);kby_none;show wpAny_ite (KBy.ite_no (413 ((af.L==iC 0)=true)) ?_);show cL (hF (x:=l) e hd H λm=>?_);cases p<;>cases k<;>(first
  |(kby_none;(show bg (hF (x:= .L) e hd H ?_));kby_none)
  |(kby_none;(show bg (hF (x:= .y _ _) e hd H ?_));kby_int)
  |(kby_int;(show bg (hF (x:= .L) e hd H ?_));kby_none)
  |(kby_int;(show bg (hF (x:= .y _ _) e hd H ?_));kby_int))<;>show 20e3
 all_goals exact h
abbrev fi(b:4e9):aA:=(314 26e7 (.qr 22e0 0))
def uU{Q:bP be->ae->Prop}(x:4e4=15e1)(h:Q 22e0 s):41 (dL.w3 2e2):=by
 unfold dL.w3 dL.payload?;exact 167 (rm x (bX 22e3))
def Pq{Q:8e5->ae->Prop}(x:s.M.rE a l u .L)(h:Q L s):41 (dL.Pr 2e2):=by
 (show dV x λo e b hd=>?_;try clear x);unfold dL.Pr;exact bg (iP ⟨o,e,b⟩ abM 22e3)
def abN{Q:0e5}(hz:106 b.U)(h:Q 9e8 (280 (fi b))):41 (dL.Ps 22e0):=by
 unfold dL.Ps;exact qs h (by refine(188 b)<=_;rw[f0];exact hz)
def abO{a sl:aI}{b:4e9}{l u:af}{lo x:8e5}{Q:0e5}(n:4e4=15e1)(k:s.M.rE sl l u .L)(q:la l lo)(i:la u x)
  (hz:106 (KBy.Av 22e0 lo x).f3.U) (h:Q 9e8 (280 (fi (KBy.Av 22e0 lo x).f3))):41 (pj 2e2 29e7):=by
 have m:47e7 :=(51 n);show wpAny_getItem_slot m aq BA.JD (nw BA.JD m BA.abB ?_ (BA.abG _ _));refine aY _ _ (dL.Pr 29e7>>=λr=>_) _ _ s;show cL (Pq k λp=>?_);show dV (id k) λo v j hd=>?_;show cL (th ⟨o,v,j⟩ λp=>?_);refine aY _ _ (dL.Pp 29e7>>=λr=>_) _ _ s;show cL (JI k q i λp=>?_);show cL (uU n λp=>?_);show cL (gt (Pt lo x L b.U (λe=>19e2)) λp=>?_);refine aY _ _ (dL.Ps (KBy.Av 22e0 lo x)>>=λr=>_) _ _ s;show bg (abN (b:=(KBy.Av 22e0 lo x).f3) hz (bX ⟨_,H,h⟩))
universe e
universe e
section
open PySem PySem.W PyProof.Rows PySem.Spec PySem.SeqAt
open Builtin hiding id
set_option backward.match.sparseCases true
section
variable{bc:gR}{w:eA}{A:dg}{E:af->ae->Prop}{s:ae}
def dF{c:Prop}[d:rg c]{t:c->al}{e:¬c->al}(h:¬c)(s:e h=false):dite c t e=false:=(dif_neg h).aV s
def abP{id pm p f1 f2 apV apW apX f6 f7}(g:Pu.hU id=false)(a:∀v t k q,f6 id v t k q=false)(s:∀x,f7 x=false):
  dL.w4.match_1 (λr=>al) (.bJ id pm,p) f1 f2 apV apW apX f6 f7=false:=by
 have ne:∀i,Pu.hU i=true->id≠i:=λi h e=>al.Oz ((e▸g).bi.aV h);delta dL.w4.match_1 dL.w4._sparseCasesOn_1;show dF (ne "bytearray.__contains__" 10e1) <| dF (ne "bytearray.__mod__" 10e1) <| dF (ne "bytearray.__rmod__" 10e1) <| dF (ne "_struct.pack_into.held" 10e1) <| dF (ne "bytearray.find.held" 10e1) ?_;obtain⟨aU,b⟩:=pm;cases aU
 ·exact s _
 ·exact a ..
set_option tactic.hygienic true in
theorem Pv{Q:29e1}(u:A.j5=G [])(h:Q false s):134 A (dL.w4 2e2) Q E s:=by
 intro Γ p m hd r;have n:guardsOf ((Γ.dH,p)::Γ.uF)=[]:=(guardsOf_cons ..).aV (m.2.2.2.1 [] u);have cR:∀b,b=false->Q b s:=λb e=>e▸h;show cR (((Γ.dH,p)::Γ.uF).fN _) (D.any_eq_false.bn λc x=>al.abQ.mp ?_);have h1:c.1.isGuard=false:=al.abQ.bn (D.filter_eq_nil_iff.mp n _ (D.ox x));have h2:=Cl.sR hd r c x;clear n x r hd m;obtain⟨c,p⟩:=c;cases c using fQ.cE;case bJ id pm=>exact abP h1 (λv t k q=>by rw[show dL.wv.hU _=false from h2];exact al.and_false _) λi=>rfl
 all_goals rfl
def Pw{Q:137 I}(x:4e4=15e1)(h:Q 0 s):41 (dL.JJ 2e2):=by
 unfold dL.JJ;exact bg (rm x 22e3)
def Px{Q:17e3}(e:A.j5=G [])(x:4e4=15e1)(h:Q () s):134 A (dL.JK 2e2) Q E s:=by
 unfold dL.JK;show aZ (m:=(dL.w4 2e2 <||> (do return(<-dL.JJ 2e2)>0))) (aZ (Pv e ?_));exact 164 (Pw x (bH (bH h)))
def w5{f:bP be->bP be}{Q:17e3}(x:4e4=15e1)(hz:106 (f 22e0).an)
  (h:∀h',18e4=281 (f 22e0).f3->166 a h'->157 ()):41 (dL.uV 2e2 f):=by
 unfold dL.uV updateBytearray;show cL (rm x λr=>?_);have e:(s.M.eM a (aA.mapBytearray f)).ao a=281 (f 22e0).f3:=258 x H;show bg (abR x (abS e ?_ (h _ e (ai.fy.eM ..))));refine(uW.qr (f 22e0) 0).pastItsLine=L;unfold uW.pastItsLine;dsimp only;rw[d6 (by rw[f0];exact I.dv.bn hz)]
universe e
set_option backward.match.sparseCases false
section
variable{bc:gR}{w:eA}{A:dg}{E:af->ae->Prop}{s:ae}
def JL{R:44e2}{id:fS}{x:Args}{b:Builtin}(p:mV lJ id=G b)(r:dL.wv.hU id=false)
  (h:aM 6e2 (A.hD (.bJ id x)) (b x)
   (λeg s'=>match eg with| .kx f=>218 f s'| .mg a=>a.sS=true/\95 A a R s') (14e7) s):
  95 A (.bJ id x) R s:=by
 show mf r ?_;refine aM _ _ (match mV lJ id with|G b=>b x|L=>X1 ((withoutEnding? id "#data").ge id)) _ _ s;rw[p];exact h
def JM{R:44e2}{id:fS}{x:Args}{b:Builtin}(p:plainId id=true)(m:dL.wv.hU id=false)(n:mV lJ id=G b)
  (h:aY 6e2 A.fg (w6 id x) (λa r=>aM 6e2 A.fg (b x)
   (λeg s'=>match eg with| .kx f=>218 f s'| .mg k=>k.sS=true/\95 A k R s') (14e7) r)
   (14e7) s):95 A (.aX (.bJ id) x) R s:=by
 show mf H ?_;refine aM _ A.fg (do w6 id x;mg (.bJ id x)) _ _ s;show 147 h (λa r v=>bH (i3.nq (Aw p x) (JL n m ?_))) 26e8;rw[dg.Py p x];exact v
def abT{apq v b:fS}{q:Builtin}{a:2e4}{Q Q₁:0e5}(ft:TypeCalled apq v b)
  (hct:abU apq (61 a)=b9 ()) (abV:mV lJ b=G q) (abW:dL.wv.hU b=false)
  (JN:uX 6e2 A.fg (.aX (.bJ v) ⟨42e9::a,[]⟩) (uY Q₁ E) s)
  (JO:∀Z p,Q₁ Z p->p.kH Z apq/\kG b ⟨Z::a,[]⟩/\
   aM 6e2 A.fg.fg (q ⟨Z::a,[]⟩)
    (λeg s'=>match eg with| .kx f=>uY (λr x=>r= .L/\Q Z x) E (.Y f) s'| .mg n=>n.sS=true/\95 A.fg n (uY (λr x=>r= .L/\Q Z x) E) s')
    (λe s'=>uY (λr x=>r= .L/\Q Z x) E (.dI e) s') p):
  134 A (aX 42e9 a) Q E s:=by
 show qf ft.qt λc g o=>?_;have z:=ft.made;have d:=ft.a2;have h1:=ft.notType;have h2:=ft.canCreate;show rh (mf H ?_);refine aM _ _ (sT 42e9 _) _ _ _;show bH ⟨fQ.Pz _ 10e1,JL apu.entry_type_call 10e1 ?_⟩;rw[dg.under_plain (weight_type_call_type apq a []) H];unfold Builtin.«type.__call__»;dsimp only;rw[d6 (by rw[h1];decide)];rw[d6 (by rw[h2];decide)];show fe (399 hct);show fe (399 o);show me (by exact al.lK) λh h=>?_;show fe (399 z);show 29e2;show 183 (JP (abX JN λr p hr=>?_));cases r with
 |dI e=>exact hr
 |Y fl=>
  cases fl with
  |bk Z=>
   show hT (JO _ _ hr) λm i l=>?_;show fe (oy m d λh=>?_);show me aq λh h=>?_;show 90 ?_;unfold Ax;show fe (iP m ft.jI.bZ λh=>?_);show dh ?_;rw[ft.jI.cr];show 181 (aZ (rh ?_));show zv (JM ft.jI.ti abW abV (ft.jI.check _ _ _ _ _ _ _ _ m (by simpa-fs using i) (by simpa-fs using l))) λj x k=>?_;cases j with
   |dI e=>exact k
   |Y app=>
    cases app with
    |bk r=>
     (show oA k λt u=>?_;try clear k;subst t);show 32e6;exact bH u
    |_=>exact k.ak
  |_=>exact hr.ak
namespace BA
def qt:Ay 26e7=b9 [26e7,6e9]:=by rw[mroOf_type];kernel_rfl
def abY:pn 26e7 "__new__" =b9 (G (.bJ "bytearray.__new__")):=by rw[kD,kF];kernel_rfl
def called:TypeCalled "bytearray" "bytearray.__new__" "bytearray.__init__" :=
 ⟨by decide+cn,by decide+cn,⟨_,_,qt⟩,madeBy_type qt abY 10e1,by decide+cn,by rw[k9];kernel_rfl,abA⟩
def typeCall(a:af):abU "bytearray" (61 [a])=b9 ():=av
def abZ(a:af):w6 "bytearray.__new__" (61 [26e7,a])=b9 ():=av
def ab0:mV lJ "bytearray.__new__" =G Builtin.«list.__new__»:=ab1 (id':= "list.__new__") 53e8 H 10e1 53e8
def PC:plainId "bytearray.__new__" =true:=by decide+cn
def jj:lL 26e7 26e7=b9 true:=by rw[k9];kernel_rfl
universe e BA
set_option maxRecDepth 1000000 in
set_option maxHeartbeats 4000000 in
theorem BA.ab2:("bytearray.__new__".splitOn ".__new__").headD "" = "bytearray" :=by simp+bK [fS.splitOn,fS.splitOnAux]
def ab3(a:af){Q₁:0e5}(h:Q₁ 9e8 (280 (fi []))):
  uX 6e2 A (.aX (.bJ "bytearray.__new__") (61 [26e7,a])) (uY Q₁ E) s:=by
 show ab4 ?_;refine aY _ A.fg (do w6 "bytearray.__new__" (61 [26e7,a]);mg (.bJ "bytearray.__new__" (61 [26e7,a]))) _ _ s;show bg (gt (BA.abZ a) (bX ⟨Aw BA.PC _,codeAny_builtin_stack BA.ab0 H λp F=>?_⟩));rw[dg.Py BA.PC _];have e:=BA.jj;have x:=BA.ab2;obtain(⟨b,g,d,tk,os⟩):=s;simp only[x];wp_walk;exact h
universe e
section
variable{bc:gR}{w:eA}{A:dg}{E:af->ae->Prop}{s:ae}
def BA.cr(v:af):dL.bindOptional "bytearray.__init__" "bytearray" ["source", "encoding", "errors"] [v] []=b9 [2e5,L,L]:=av
def BA.ab5:342 "__release_buffer__" "bytearray.__release_buffer__" :=
 347 "__release_buffer__" kF
  (by first|exact .a4 (by decide+cn)|exact .aE (by decide+cn)) (30e8)
def io.tj:ow "bytes" "__buffer__" "bytes.__buffer__" :=
 .of (k8:= "bytes") (n:= "__buffer__") (by rw[kD,kF];kernel_rfl) 10e1 10e1 10e1
  (by first|exact .a4 (by decide+cn)|exact .aE (by decide+cn)) (30e8)
def io.ab6:pn 27e0 "__release_buffer__" =b9 L:=by rw[kD,kF];kernel_rfl
def io.PD:pn 27e0 "__index__" =b9 L:=by rw[kD,kF];kernel_rfl
def io.ab7:pn 27e0 "__int__" =b9 L:=by rw[kD,kF];kernel_rfl
def io.ab8:pn 27e0 "__float__" =b9 L:=by rw[kD,kF];kernel_rfl
def io.ab9:lL 27e0 26e7=42e5:=by rw[k9];kernel_rfl
def io.aca:lL 27e0 (.aB "complex")=42e5:=by rw[k9];kernel_rfl
def io.jj:lL 27e0 27e0=b9 true:=by rw[k9];kernel_rfl
def acb:(57e2).endsWith ("." ++ "__release_buffer__")=true:=by decide+cn
def PE:("bytes.__buffer__" :fS).endsWith ("." ++ "__buffer__")=true:=by decide+cn
def drop1:(57e2).dropRight (("__release_buffer__" :fS).U+1)= "bytearray" :=by decide+cn
def PF:("bytes.__buffer__" :fS).dropRight (("__buffer__" :fS).U+1)= "bytes" :=by decide+cn
def acc{Q:29e1}(e:4e4=15e1)(h:Q false s):41 (dL.JR 2e2):=by
 have x:47e7 :=(51 e);unfold dL.JR dL.JU;show 167 (iP x BA.ab5.bZ ?_);try dsimp only
 rw[acb,drop1,d6 aq];exact oy x BA.jj 22e3
def acd{Q:29e1}(h:Q false s):41 (dL.JR (.iQ b tk)):=by
 unfold dL.JR dL.JU;exact 167 (iP (po s b tk) io.ab6 (bX 22e3))
def PG{b:bP be}{tk:Tok}{id:fS}{full:al}{Q:ar (bP be)->ae->Prop}(h:Q (G b) s):41 (dL.buffer? id (.iQ b tk) full):=by
 have e:=po s b tk;unfold dL.buffer?;show cL (iP e io.tj.bZ λx=>?_);unfold dL.JU;show 167 (iP e io.tj.bZ ?_);try dsimp only
 rw[PE,PF,d6 aq];show oy e io.jj ?_;show sQ aq λx x=>?_;show cL (iP e io.tj.bZ λx=>?_);show cL (acd λx=>?_);show sQ aq λx x=>?_;exact bg (gt (a:=b) H 22e3)
def PH(n:I):dL.tooLong n=bK (n>JV):=H
def ace{a:aI}{v:af}{R:137 ky}{b:4e9}(p:A.j5=G [])(e:4e4=281 [])
  (hv:(∃n tk,v= .y n tk/\0<=n/\n<=16777216/\b=285 0)\/(∃tk,v= .iQ 22e0 tk/\b.U<=16777216))
  (h:∀h',18e4=15e1->166 a h'->R (.kx (.bk .L)) 35e9):
  134 A (Builtin.«bytearray.__init__» (61 [2e2,v])) R E s:=by
 unfold Builtin.«bytearray.__init__»;show fe (acc e λx=>?_);show me aq λx x=>?_;show fe (gt (BA.cr _) λx=>?_);show fe (322 ());show fe (322 ());show aZ (m:=(dL.w4 2e2 <||> (do return(<-dL.JJ 2e2)>0))) (aZ (Pv p ?_));show eP (Pw e 32e6);show me aq λx x=>?_;show fe (w5 (b:=[]) e (by simp) λh1 e1 s1 x=>?_);have e1:h1.ao a=281 []:=e1;rcases hv with⟨n,tk,H,h0,hz,H⟩|⟨tk,H,hz⟩
 ·show fe (322 L);show uG aq <|?_;show fe (322 ());show fe (iP (s:=48e0) (Az _ n tk) apu.PJ.bZ λx=>?_);show thR cI <|?_;show fe (tl (322 n));show me (by simp only[dL.fitsIndex,al.w7,al.acf,al.lb,mW];lia) λx x=>uG (by exact K.AA h0) <| me (by simp only[AB];lia) λx x=>me (by simp only[PH,mW,f0];lia) λx x=>?_;show fe (ny λx=>?_);split
  ·show fe (w5 (s:=48e0) e1 (by simp;exact K.le_def.bn hz) λh2 e2 r x=>?_);exact bH (h h2 (by simpa using e2) (s1.aV r))
  ·have:n.aJ=0:=bN;exact bH (h h1 (by rw[bb];exact e1) s1)
 ·show fe (322 L);show uG aq <|?_;show fe (322 ());show fe (iP (s:=48e0) (po _ _ _) io.PD λx=>?_);show me aq λx x=>?_;show fe (PG λx=>?_);show fe (ny λx=>?_);show fe (w5 (s:=48e0) e1 (by simpa using hz) λh2 e2 r x=>?_);exact bH (h h2 (by simpa using e2) (s1.aV r))
def PK{Q:0e5}(r:A.j5=G [])
  (hv:(∃n tk,v= .y n tk/\0<=n/\n<=16777216/\b=285 0)\/(∃tk,v= .iQ 22e0 tk/\b.U<=16777216))
  (h:∀h',47e3=15e1->(∀c o,37e1=0e4->h'.ao c=0e4)->h'.O.an=s.M.O.an+1->157 9e8):
  134 A (aX 26e7 [v]) Q E s:=by
 show abT BA.called (BA.typeCall v) BA.abE 10e1 (ab3 v (Q₁:=λZ e=>Z= 9e8/\e=(280 (fi []))) 15e2) ?_;rintro Z e ⟨H,H⟩;have e0:(s.M.b6 (fi [])).ao s.M.O.an=281 []:=9e9;show⟨(51 e0),BA.abK _ _,ace (A:=A.fg.fg) r e0 hv λh' p s'=>?_⟩;show⟨H,h h' p (λc o x=>?_) (by rw[s'.1,ai.iM])⟩;have a:=ai.cQ x;exact(s'.2 c (I.ip a)).aV (104 x)
universe e
namespace BA
def PL:JA.owners.bZ (fS.ofList ['r','o','t','a','r','e','t','i','_','y','a','r','r','a','e','t','y','b'].er)=G JA.sig_bytearray_iterator:=av
def uZ:ow "bytearray_iterator" "__next__" "bytearray_iterator.__next__" :=
 .of (k8:= "bytearray_iterator") (n:= "__next__") (by rw[kD,kF];kernel_rfl) 10e1 10e1 10e1
  (by first|exact .a4 (by decide+cn)|exact .aE (by decide+cn)) (30e8)
def PM:mV lJ "bytearray_iterator.__next__" =G Builtin.«bytearray_iterator.__next__»:=uS av
def PN(a:af):kG "bytearray_iterator.__next__" (61 [a]):=by
 unfold kG;rw[313 "bytearray_iterator.__next__" ['_','_','t','x','e','n','_','_'] ['r','o','t','a','r','e','t','i','_','y','a','r','r','a','e','t','y','b'] PL];kernel_rfl
universe e BA
def nz(h:ai)(it a:aI)(i:I):Prop:=∃o,h.ao it=0e4/\o.bj= 41e4 /\o.bf= .cp #[2e2,3 i]
def nz.mX{s:ae}{it a:aI}{i:I}(x:nz s.M it a i):s.kH 32e8 "bytearray_iterator" :=(by(show dV x λo h e b=>?_;try clear x);exact⟨o,h,e⟩)
section
variable{bc:gR}{w:eA}{A:dg}{E:af->ae->Prop}{s:ae}
def PQ{Q:0e5}(x:4e4=15e1)
  (hQ:Q 9e8 {s with M:=208 41e4 (.cp #[2e2,1e4])}):41 (qu 2e2):=by
 have h:47e7 :=(51 x);show PR h BA.Po (nw BA.Po h BA.abD ?_ (BA.abJ _));refine aY _ _ (do bk (<-newFields "bytearray_iterator" [2e2,iC 0])) _ _ s;exact bg (qs (bX ⟨_,H, "bytearray_iterator",_,⟨_,9e9,H⟩,BA.uZ.bZ,hQ⟩))
def PS{it a:aI}{i:I}{b:4e9}{c:be}{Q:12e4->ae->Prop}(et:nz s.M it a i)(r:4e4=15e1)(k:b[i]? =G c)
  (hQ:∀h',nz h' it a (i+1)->166 it h'->Q (G (.y c.aJ s.a1)) (349 h' s.a1 1)):41 (Ax 32e8 "__next__"):=by
 show dV (id et) λo h p hd=>?_;show 389 et.mX BA.uZ
  (nw BA.uZ et.mX BA.PM ?_ (BA.PN _))
 refine aY _ _ (ro 32e8 0>>=_) _ _ s;show bg (hF h hd (x:= 2e2) H ?_);show bg (rm r ?_);dsimp-fs only;show bg (hF h hd (x:= 3 i) H ?_);dsimp only;have e:(bP.mk b)[(i:K).aJ]? =G c:=by rw[K.tm];simpa-fs using k
 rw[e];dsimp only;show bg (u3 h hd (by exact I.one_lt_succ_succ [].U) ?_);show bg (wpAny_mkInt (bX ⟨_,H,hQ _ ?_ (ai.fy.eM ..)⟩));exact⟨_,258 h (aA.isFreed_of_fields (aA.acg hd _)),(aA.cls_mapFields ..).aV p,by
  rw[aA.acg hd];simp-fs [iC]⟩
def ach{Q:0e5}(et:nz s.M it a i)(h:4e4=15e1)(x:b[i]? =G c)
  (hQ:∀h',nz h' it a (i+1)->166 it h'->Q (.y c.aJ s.a1) (349 h' s.a1 1)):41 (pq.tp 32e8):=by
 unfold pq.tp;exact bg (PS et h x λh' a b=>bX (hQ h' a b))
def PU{it a:aI}{i:I}{b:4e9}{Q:12e4->ae->Prop}(r:A.e8=L)(et:nz s.M it a i)(k:4e4=15e1)(p:b[i]? =L)
  (hE:∀h' e,ai.u6 it s.M h'->(∃o,43e0=0e4/\o.bj= 44e6)->E 9e6 35e9):41 (Ax 32e8 "__next__"):=by
 show dV (id et) λo h n hd=>?_;show(389 et.mX BA.uZ
  (nw BA.uZ et.mX BA.PM ?_ (BA.PN _)))
 refine aY _ _ (ro 32e8 0>>=_) _ _ s;show bg (hF h hd (x:= 2e2) H ?_);show bg (rm k ?_);dsimp-fs only;show bg (hF h hd (x:= 3 i) H ?_);dsimp only;have e:(bP.mk b)[(i:K).aJ]? =L:=by rw[K.tm];simpa-fs using p
 rw[e];dsimp only;show bg (ny (bg (u3 h hd (by exact aci H) (bg (PV ?_)))));refine aY _ _ (JY 44e6 []>>=_) _ _ _;show 23e7;dsimp-fs only[JY,newTuple];show bg 51e1;show bg (m:=JZ _ _) (gt (a:=af.L) (by first|rfl|(dsimp-fs only[JZ];rfl)) ?_);show 51e1;dsimp-fs only[J0];show bg (PW ?_);first|rw[show A.fg.e8=L from r]|rw[r]
 show bg (bX (wpAny_throw ?_));exact hE _ _ (((ai.fy.eM ..).mq.b6 _).b6 _) ⟨_,9e9,H⟩
def PY{Q:0e5}(x:A.e8=L)(et:nz s.M it a i)(h:4e4=15e1)(r:b[i]? =L)
  (hE:∀h' e,ai.u6 it s.M h'->(∃o,43e0=0e4/\o.bj= 44e6)->E 9e6 35e9):41 (pq.tp 32e8):=by
 unfold pq.tp;exact bg (PU x et h r hE)
universe e
def PZ(j:A.e8=L)(it a:aI)(u:a≠it)(b:D be):
  Draws bc w A it [it,a] b.U (λi v=>∃c t,b[i]? =G c/\v= .y c.aJ t) (λi h=>nz h it a i/\h.ao a=G (fi b))where
 j6:=λx x F=>(by show aN F.1 λo e x=>?_;exact⟨o,e⟩)
 ec:=λx x x F p=>⟨(by show aN F.1 λo e r=>?_;exact⟨o,p it (by exact D.dQ) o e,r⟩),p a (by simp-fs) _ F.2⟩
 item:=λi s Q E m F l=>by
  show ach F.1 F.2 (c:=b[i]) (by simp-fs [m]) λh' n k=>?_;exact l _ h' _ ⟨b[i],_,by simp-fs [m],H⟩ ⟨n,(k.2 a u).aV F.2⟩ k
 done:=λs Q E F q=>PY j F.1 F.2 (by simp-fs) q
def ctt{α:Type}{f:al->9e4}{Q E s}(h:∀b,67 (f b)):67 (pq.calledThroughType bj>>=f):=
 167 (wpAny_stack_any λx=>bX (h _))
def acj(l:aI)(b:4e9):
  Meets (Builtin.«enumerate.__new__» (61 [47e1,.N l])) (λr R s=>s.M.ao l=15e1/\
   R (.Y (.bk (.N (208 41e4 (.cp #[.N l,1e4])).O.an)))
    {s with M:=(208 41e4 (.cp #[.N l,1e4])).b6 (336 47e1 #[.L,33e5,9e8,iC 0,.L,.L])}):=
 .of_wp λbc w A R s h=>by
  obtain(⟨a,g,d,tk,os⟩):=s;show oA h λx h=>?_;have p:=sub_enumerate;have hL:(ae.M ⟨a,g,d,tk,os⟩).ao l=15e1:=x;wp_walk using ctt,AutoSeq1.wpAny_loadPart' x;intro e;cases e<;>(wp_walk using AutoSeq1.wpAny_loadPart' x,PQ hL)<;>exact⟨_,H,h⟩
section
variable{bc:gR}{w:eA}{A:dg}{E:af->ae->Prop}{s:ae}
def ack{Q:0e5}(a:s.M.ao l=15e1)
  (h:∀h',u7 h' (180 1) s.M.O.an 0 .L->nz h' s.M.O.an l 0->h'.O.an=s.M.O.an+2->
   (∀b o,8e8=0e4->11e8=0e4)->157 24e0):
  41 (aX 47e1 [.N l]):=by
 show acl apu.called_enumerate aq (apu.typeCall_enumerate_1 _) (apu.newCall_enumerate_1 _) (λZ=>apu.acm Z _) apu.entry_enumerate_new
  (acj l b) ⟨a,?_⟩
 have hz:(208 41e4 (.cp #[.N l,1e4])).O.an=s.M.O.an+1:=ai.iM ..;refine _/\_;rw[hz];have e:u7 ((208 41e4 (.cp #[.N l,1e4])).b6
   (336 47e1 #[.L,33e5,9e8,iC 0,.L,.L])) (180 1) s.M.O.an 0 .L:=by
  have:=ai.fF (208 41e4 (.cp #[.N l,1e4]))
   (o:=(336 47e1 #[.L,33e5,9e8,iC 0,.L,.L])) H
  rw[hz]at bb;exact bb
 show⟨(51 e),h _ e ⟨_,104 9e9,H,H⟩ (by rw[ai.iM,hz]) λb o x=>299 x⟩
universe e
universe e
section
open PySem PySem.W PyProof.Rows PySem.Calls
set_option backward.match.sparseCases false
section
variable{bc:gR}{w:eA}{A:dg}{E:af->ae->Prop}{s:ae}{R:md->ae->Prop}
def acn{α:Type}{apB:iz}{ab:ez}{m:9e4}{aU:dA}{Q:14e6}(h:108 m Q (j4 apB A ab E) s):
  29 (m.qi λx=>do mR x ab;kw aU):=
 ww (eW h (λa a q=>q) λa a b=>aM.of (bg (hV b (λa a e=>pr e) λa a e=>e)))
def aco{pt iR lM j7 bt aU it cP ab}
  (h0:95 A (.qv (133 pt iR lM j7 bt) 0 it cP ab) R s)
  (h:aY 6e2 A (qu it) (λe s'=>95 A (.qv (133 pt iR lM j7 bt) 0 e cP ab) R s')
   (j4 6e2 A ab λx s'=>R (.dI x) s') s):
  95 A (.w9 (133 pt iR lM j7 bt) 0 it cP ab) R s:=by
 show mf H ?_;refine aM _ _ ((w9 (133 pt iR lM j7 bt) 0 it cP ab).qi (λx=>do mR x ab;kw theWindowsPlace)) _ _ s;show acn ?_;unfold w9;refine aM _ _ (ask>>=_) _ _ s;show eP (acp ?_);split
 ·first
   |exact aZ (bH (bH (i3.nq H h0)))
   |exact bH (i3.nq H h0)
 ·show eP (ny ?_);refine aM _ _ (kw lM.aU>>=_) _ _ s;exact eP (pr (147 h (λe s' h'=>bH (i3.nq H h')) (λa a x=>x)))
def P0
  (turn:aY (bh bc w) A (oz it) (λr a=>match r with
   |L=>218 .bA a
   |G v=>272 w A (AC iR it v) (λh a=>134 A (rF iR ab v) (λh n=>
     aM (6e2) A (forIn j7 true λc r=>if r=true then do let Y<-sU c ab (77 c);b9 (xa.uH Y)else b9 (xa.uH r)) (λY p=>
      if Y=true then 134 A (77 pt) (λx k=>
       aM (6e2) A (409 [cP,x]) (λh q=>95 A (.qv (133 pt iR lM j7 bt) 0 it cP ab) R q) (j4 6e2 A ab 14e7) k) (j4 6e2 A ab 14e7) p
      else 95 A (.qv (133 pt iR lM j7 bt) 0 it cP ab) R p) (j4 6e2 A ab 14e7) n) (j4 6e2 A ab 14e7) a) (j4 6e2 A ab 14e7) a) (j4 6e2 A ab 14e7) s):
  95 A (.qv (133 pt iR lM j7 bt) 0 it cP ab) R s:=by
 show mf H ?_;refine aM _ A (408 (compTurn (133 pt iR lM j7 bt) 0 it cP ab)) _ _ s;show zw ?_;rw[compTurn_list];show eP (pr (147 turn (λr a b=>?_) 47e4));cases r with
 |L=>exact bH b
 |G v=>
  show 147 b (λh a b=>?_) 47e4;show aZ (eW b (λh n j=>aZ (eW j (λY p m=>?_) 47e4)) 47e4);cases Y with
  |false=>exact bH (238 m)
  |true=>
   exact aZ (aZ (eW m (λx k u=>aZ (eW u (λh q i=>bH (bH (238 i))) 47e4)) 47e4))
def acq{Q:0e5}
  (gJ:clausesOf e=g::gs) (hs:∀x,u8 g.lM ab x=b9 x) (J1:AD bt ab=b9 cl)
  (J2:bt.d9= .jJ) (J3:∀x∈bt.bq,x.2= .cV->bt.bq.bZ x.1=12e3)
  (h:108 u9 (λx p=>aY apB A (qu x) (λit n=>aY apB A J4 (λcP k=>
   aY apB A (zE bt ab.g8 cl [] ab.pv L .L (G ab)) (λjK b=>
    e7 apB A (.w9 e 0 it cP (318 bt ab)) (λr s'=>match r with
     | .Y _=>∃m,s'.M.Ns jK.cY m/\∀h',ai.fy jK.cY s'.M h'->Q cP {s' with M:=h'}
     | .dI x=>fR) b) E k) E n) E p) E s):
  29 (J5 e bt ab aU J4 false u9 L):=by
 unfold J5;rw[J1,gJ];show aZ (eW h (λx p i=>eP (pr (eP (gt (hs x) (eP (nA (hV i (λit n o=>?_) 26e8))))))) 26e8);rw[d6 aq];show 147 o (λcP k u=>181 (147 u (λjK b v=>?_) 26e8)) 26e8;dsimp only;have w:∀x∈(bt.bq.oq λx=>(x.2== .cV||x.2== .dm)&&x.1 !=(".0" :am)).er,x.2= .cV->
   ez.dB (318 bt ab) x.1=12e3:=λx c q=>acr (J3 x (D.rA.mp (D.AE.mp c)).1 q)
 show dh (aZ (wx (dh (DC ?_ (by intro x;cases x)))));rw[wy];show zv v λr s' hr=>?_;cases r with
 |Y f=>
  show aN hr λm j hr=>?_;exact eP (nA (acs (jK:=(318 bt ab)) J2 _ s' m w j λh' m' a l=>bH (hr h' l)))
 |dI x=>exact hr.ak
universe e
universe e
section
open PySem PySem.W PyProof.Rows PySem.Spec PySem.SeqAt
open Builtin hiding id
set_option backward.match.sparseCases false
namespace BA
def P1:ow "bytearray_iterator" "__iter__" "bytearray_iterator.__iter__" :=
 .of (k8:= "bytearray_iterator") (n:= "__iter__") (by rw[kD,kF];kernel_rfl) 10e1 10e1 10e1
  (by first|exact .a4 (by decide+cn)|exact .aE (by decide+cn)) (30e8)
def entry_self:mV lJ "bytearray_iterator.__iter__" =G Builtin.«dict_keyiterator.__iter__»:=ab1 (id':= "dict_keyiterator.__iter__") 53e8 H 10e1 53e8
def args_self(a:af):kG "bytearray_iterator.__iter__" (61 [a]):=by
 unfold kG;rw[313 "bytearray_iterator.__iter__" ['_','_','r','e','t','i','_','_'] ['r','o','t','a','r','e','t','i','_','y','a','r','r','a','e','t','y','b'] PL];kernel_rfl
universe e BA
section
variable{bc:gR}{w:eA}{A:dg}{E:af->ae->Prop}{s:ae}
def act(j:A.e8=L)(apy a:aI)(m:a≠apy)(b:D be):
  J6 bc w A apy [apy,a] [apy] b.U (λi v=>∃c t,b[i]? =G c/\v= .y c.aJ t) (λi h=>nz h apy a i/\h.ao a=G (fi b))where
 a2:=λb k=>by simp at k;simp[k]
 ec:=(PZ (bc:=bc) (w:=w) j apy a m b).ec
 item:=λi s Q E l F r=>by
  unfold oz;show bg (tl (PS F.1 F.2 (c:=b[i]) (by simp[l]) λh' d n=>bX (r _ h' _ ⟨b[i],_,by simp[l],H⟩ ⟨d,(n.2 a m).aV F.2⟩ λc o x e=>n.mq c o (λq=>x (by exact D.cZ.bn q)) e)))
 done:=λs Q E F r=>by
  unfold oz;show cL (tl (PU j F.1 F.2 (by simp) λh' e z u f=>?_));(show aN u λo app x=>?_;try clear u);show cL (oy (apq:= "StopIteration") (b:=true) ⟨o,app,x⟩ P2 λf=>?_);exact bX (r h' s.a1 λc o x e=>z c o (λq=>x (by exact D.cZ.bn q)) e)
 oC:=λi s Q E F r=>by
  have p:=F.1.mX;show PR p BA.P1 (nw BA.P1 p BA.entry_self ?_ (BA.args_self _));refine aY _ _ (bk (.N apy)) _ _ s;exact bX ⟨_,H, "bytearray_iterator",_,p,BA.uZ.bZ,r⟩
def acu{a:aI}{Q:29e1}(e:47e7)(h:Q false s):41 (Builtin.D.AF 2e2):=by
 unfold Builtin.D.AF;show cL (iP e BA.JG.bZ λx=>?_);generalize p:("bytearray.__len__" :fS)=J7;wp_delta;rw[show splitId J7=G ("bytearray", "__len__")from by subst p;decide+cn];subst p;show cL (oy (apq:= "bytearray") (b:=true) e 30e8 λx=>?_);show AG (λr=>bM r aq) (λx=>?_);show AG (λx=>?_) (λr=>bM 10e1 r);show cL (th e λx=>?_);exact 22e3
def acv{b:bP be}{t:Tok}{Q:29e1}(h:Q false s):41 (Builtin.D.AF (.iQ b t)):=by
 have e:=po s b t;unfold Builtin.D.AF;show cL (iP e FB.slot_bytes_len.bZ λx=>?_);generalize r:("bytes.__len__" :fS)=J7;wp_delta;rw[show splitId J7=G ("bytes", "__len__")from by subst r;decide+cn];subst r;show cL (oy (apq:= "bytes") (b:=true) e 30e8 λx=>?_);show AG (λa=>bM a aq) (λx=>?_);show AG (λx=>?_) (λa=>bM 10e1 a);show cL (th e λx=>?_);exact 22e3
def P5{R:44e2}{apq:fS}{r res:af}{S:aI}{j n:I}{fp:11e9}{P:I->af->Prop}{St:I->ai->Prop}{oI:aA}(l:s.kH r apq)(nl:(af.aB apq==51e4)=false)(z:(af.aB apq==af.aB "tuple")=false)
  (acw:Builtin.D.P6 (.N S) r=false) (hint:∀(E:0e5) (Q:29e1),Q false (280 oI)->272 w A.fg (Builtin.D.AF r) Q E (280 oI))
  (lM:∀(E:0e5) (Q:0e5),Q 9e8 (280 oI)->aY (bh bc w) A.fg (qu r) Q E s)
  (W:J6 bc w A.fg s.M.O.an fp 39e8 n P St) (fm:St 0 (s.M.b6 oI)) (P7:S∉fp) (hS:s.M.ao S=G (327 #[] j))
  (apY:∀h' tk m a,(∀b o,b≠S->8e8=0e4->11e8=0e4)->h'.ao S=G {bj:= 19e6,bw:=L,bf:= .cH m a,nB:= #[]}->xb P m n->332 res (84 h' tk)) (hn:n<=JV):
  aY 6e2 A.fg (Builtin.D.va (.N S) r res)
   (λeg s'=>match eg with| .kx f=>218 f s'| .mg a=>a.sS=true/\uX 6e2 A a R s') (14e7) s:=by
 have g:S≠s.M.O.an:=298 hS;unfold Builtin.D.va;show cL (th l λp=>?_);simp only[acw,nl,z,al.mo,al.zH,zI];show bg (lM _ _ (bg (nA (hint _ _ ?_))));have k:=ai.eo oI hS;have cR:∀(h:ai) (v tk:I),St 0 h->(∀b o,b≠S->8e8=0e4->h.ao b=0e4)->
   h.ao S=G (327 #[] v)->uX 6e2 A (.bJ "list.extend.loop" (61 [.N S,9e8,res])) R (84 h tk):=by
  intro h v tk fm c k;show codeAny_extend_loopS W.toS hn S P7 res n 0 _ #[] v H 31e8 fm k (xb.aR _) λs' m a hm app t=>?_;rw[Moved.eq_with hm];show apY s'.M s'.a1 m a (λb o x e=>hm.M b o (λq=>?_) (c b o x e)) app t;rcases D.eR.mp q with q|q
  ·exact x q
  ·exact bM 9e1 (420 53e0)
 show AG (λp=>?_) (λp=>bX ⟨Aw PySem.apu.acx _,cR _ j _ fm (λb o p e=>35e5) k⟩);show cL (ny λp=>?_);show 23e7;refine aY _ _ (P8 S (·.b6 .L)>>=λp=>P8 S (·.pop)) _ _ _;show cL (AH k H λp=>?_);have u:=ai.kz (aA.px (·.b6 af.L)) k H;show AH (hz:=by seq_fits) u H ?_;have d:=ai.kz (aA.px (·.pop)) u H;show bX ⟨Aw PySem.apu.acx _,cR _ _ _ (W.ec 0 _ _ fm λb x o e=>?_) (λb o x e=>?_) d⟩
 ·have i:b≠S:=λh=>P7 (h▸x);exact(ai.AI _ _ (Ne.bi i)).aV ((ai.AI _ _ (Ne.bi i)).aV e)
 ·exact(ai.AI _ _ (Ne.bi x)).aV ((ai.AI _ _ (Ne.bi x)).aV 35e5)
def P9{apq:fS}{r:af}{n:I}{P:I->af->Prop}{Q:0e5}
  (cR:∀(s1:ae) (R:44e2) (d:I),(∀b o,8e8=0e4->s1.M.ao b=0e4)->s1.M.ao s.M.O.an=G (327 #[] d)->
   (∀h' tk x h,(∀b o,b≠s.M.O.an->s1.M.ao b=0e4->11e8=0e4)->47e3=G {bj:= 19e6,bw:=L,bf:= .cH x h,nB:= #[]}->xb P x n->332 .L (375 h' tk))->
   272 w A.fg.fg (Builtin.D.va 9e8 r .L) (λeg s'=>match eg with| .kx f=>218 f s'| .mg h=>h.sS=true/\uX 6e2 A.fg h R s') 14e7 s1)
  (hQ:∀h' tk x h,(∀b o,8e8=0e4->11e8=0e4)->47e3=G {bj:= 19e6,bw:=L,bf:= .cH x h,nB:= #[]}->xb P x n->156 9e8 tk):
  41 (aX 19e6 [r]):=by
 show acy (Q₁:=λZ k=>Z= 9e8/\k={s with M:=208 19e6 (.cH #[])}) PySem.apu.called_list (PySem.apu.typeCall_list_1 _) PySem.apu.entry_list_init
  (code_list_new _ 15e2) λZ k m=>?_
 (show oA m λq i=>?_;try clear m;subst q;subst i);have p:(208 19e6 (.cH #[])).ao s.M.O.an=G (308 #[]):=9e9;show⟨(51 p),PySem.apu.args_list_init_2 _ _,?_⟩;refine aY _ _ (do let hY<-Builtin.D.Qa 9e8;Builtin.D.listUpdate (9e8) (λa=> #[]);letGo hY.f3.er;Builtin.D.va (9e8) r .L) _ _ _;show 23e7;unfold Builtin.D.Qa;show bg (AJ p H 20e3);refine aY _ _ (P8 s.M.O.an (λa=> #[])>>=λa=>letGo (#[]:16e5).f3.er>>=λa=>Builtin.D.va 9e8 r .L) _ _ _;show cL (AH p H λa=>?_);have u:=ai.kz (aA.px (λa=>(#[]:16e5))) p H;have v:∀b o,8e8=0e4->((208 19e6 (.cH #[])).eM s.M.O.an (aA.px (λa=>(#[]:16e5)))).ao b=0e4:=
  λb o e=>(ai.AI _ _ (I.vb 9e1)).aV 35e5
 show bg (PV (cR _ _ _ v u λh' tk x h j c l=>?_));exact⟨H,hQ h' tk x h (λb o e=>j b o 42e2 (v b o e)) c l⟩
def list_bytes{b:bP be}{t:Tok}{Q:0e5}(n:A.e8=L)(m:106 b.an)
  (hQ:∀h' tk a p,(∀b o,8e8=0e4->11e8=0e4)->47e3=G {bj:= 19e6,bw:=L,bf:= .cH a p,nB:= #[]}->xb (λi v=>∃c u,b[i]? =G c/\v= .y (c.aJ:K) u) a b.an->156 9e8 tk):
  41 (aX 19e6 [.iQ b t]):=
 P9 (apq:= "bytes") (λs1 R q k e r=>P5 (apq:= "bytes") (fp:=[s1.M.O.an]) (oI:=(329 "bytes_iterator" #[.iQ b t,1e4])) (po s1 b t) aq aq H (λx x h=>acv h) (λx x h=>KBw.pyIter_bytes h) (KBw.walks (A:=A.fg.fg) n _ b t) (by exact⟨_,9e9,H,H⟩)
  (by simp only[D.cZ];exact 42e2) e r (by rw[f0];exact m)) hQ
def acz{a:aI}{b:4e9}{Q:0e5}(d:A.e8=L)(n:4e4=15e1)(l:106 b.U)
  (hQ:∀h' tk p j,(∀b o,8e8=0e4->11e8=0e4)->47e3=G {bj:= 19e6,bw:=L,bf:= .cH p j,nB:= #[]}->xb (λi v=>∃c t,b[i]? =G c/\v= .y c.aJ t) p b.U->156 9e8 tk):
  41 (aX 19e6 [2e2]):=by
 have m:a≠s.M.O.an:=298 n;show P9 (apq:= "bytearray") (λs1 R f k r u=>?_) hQ;have x:=k a _ n;have q:s1.kH 2e2 "bytearray" :=(51 x);show P5 (apq:= "bytearray") (fp:=[s1.M.O.an,a]) (oI:=(336 41e4 #[2e2,1e4])) q aq aq (by simp[Builtin.D.P6];exact Ne.bi m) (λe e h=>acu ⟨_,104 x,H⟩ h) (λe e h=>PQ x h)
  (act (A:=A.fg.fg) d _ a (298 x) b) (by exact⟨⟨_,9e9,H,H⟩,104 x⟩) ?_ r u (by rw[f0];exact l)
 simp only[D.eR,D.mn,mo,Qb];exact⟨298 r,Ne.bi m⟩
universe e
universe e
section
open PySem PySem.W PyProof.Rows PySem.Spec PySem.SeqAt PySem.Calls
open Builtin hiding id
set_option backward.match.sparseCases false
section
variable{bc:gR}{w:eA}{A:dg}{E:af->ae->Prop}{s:ae}
def acA(h:tq vs ns):∀{i:I} {v:af},vs[i]? =2e5->∃t,v= .y ((ns[i]?).ge 0) t:=by
 induction h with
 |aR=>exact λe=>by simp at e
 |aQ n t h s=>
  intro i v e;cases i with
  |i4=>cases e;exact⟨t,H⟩
  |hG i=>exact s (i:=i) e
def acB(ns:D K)(k:I):Qc (λi=>(ns[i]?).ge 0) k=(ns.fG k).lc:=by
 induction k with
 |i4=>exact preSum_getD ns 0
 |hG k s=>
  rw[Qc,s,D.take_add_one,D.sum_append];cases ns[k]? <;>simp
def sum_list{Q:0e5}(q:A.e8=L)(h:151 a aP)(k:tq aP ns)
  (hQ:∀h' tk t',(∀b o,8e8=0e4->11e8=0e4)->156 (.y ns.lc t') tk):41 (260 "sum" [2e2]):=by
 have r:a<s.M.O.an:=by(show aN h λo e u=>?_;try clear h);exact 9e1
 show call_sum_walkAnyS (AK h ?_);show⟨s.M.O.an,_,_,_,_,_,_,λi=>(ns[i]?).ge 0,H,(J6.az (A:=A.fg) q s.M.O.an a (I.ip r) 32e4).toS,⟨⟨_,9e9,H,H⟩,h.at λo e=>35e5⟩,λb x=>?_,λi v m=>acA k (by simpa using m),λs' t' hm=>?_⟩
 ·refine b<(s.M.b6 _).O.an;rw[ai.iM];rcases D.eR.mp x with e|x
  ·rw[e];exact 40e6
  ·rw[D.cZ.mp x];exact I.Qd r
 ·have e:Qc (λi=>(ns[i]?).ge 0) (188 aP)=ns.lc:=by
   rw[acB];have:(188 aP)=ns.U:=k.U;rw[bb,D.take_length]
  rw[e,Moved.eq_with hm];exact hQ s'.M s'.a1 t' λb o p=>hm.M b o (λn=>bM (ai.cQ p) (420 (D.cZ.mp n))) (104 p)
def acC{bL:D (K×af)}:∀{vs:2e4},vs.U=bL.U->(∀(i:I) v,vs[i]? =2e5->∃k x,bL[i]? =G (k,x)/\(oD bc w).is k v=true)->tq vs (bL.aj (·.1)):=by
 induction bL with
 |aR=>intro vs s _;rw[D.J8.mp s];exact .aR
 |aQ p r ih=>
  intro vs s h;cases vs with
  |aR=>cases s
  |aQ v vs=>
   show gd (h 0 v H) λk x e a=>?_;cases e;(show oE (af.isInt_shape a) λt m=>?_;subst m);exact .aQ _ _ (ih (I.hG.cF s) λi v b=>h (i+1) v b)
def acD{d:aI}{bL:D (K×af)}{ep:I}{Q:0e5}(z:A.e8=L)(l:s.M.nD (oD bc w) d bL ep)(lo:(d==tr)=false)(c:bL.U<64)
  (hQ:∀h' tk apr bI lf,(∀b o,8e8=0e4->11e8=0e4)->h'.j8 apr bI->s.M.ao apr=L->tq bI.f3 lf->lf.qw (bL.aj (·.1))->lf.tu (· <= ·)->156 43e7 tk):
  41 (260 "sorted" [.N d]):=by
 show call_function_entry kind_sorted plain_sorted entry_sorted (args_sorted1 _) ?_;unfold Builtin.«sorted»;show cL (m:=checkCount "sorted" 1 1 _) (bX λf=>?_);show cL (kdu_collect (A:=A.fg) (kdl_dict (gY:=oD bc w) (bL:=bL) (ep:=ep) lo) z l (by rw[f0];lia) λh' tk cP a r f=>?_);have h:cP.f3.U=bL.U:=by rw[bP.J9];exact r.1
 have t:tq cP.f3 (bL.aj (·.1)):=acC h λi v p=>r.2 i v (by rw[<-bP.Qe];exact p);show bg (Ka ?_ (by rw[h,f0];lia));have x:(h'.b6 (308 cP.f3.gF)).ao h'.O.an=G (seqObj "list" cP.f3.gF 0):=9e9;have k:s.M.ao h'.O.an=L:=by
  cases q:s.M.ao h'.O.an with
  |L=>rfl
  |G o=>exact 292 (ai.cQ (a _ _ q))
 show bg (nA (nw slot_list_sort (51 x) entry_list_sort (list_sort_tree x t (by rw[h];exact c) λbI lf n u a3=>⟨_,H,?_⟩) (args_list_sort _)));show bX ⟨_,H,?_⟩;show oE (sortedHeap_at (bI:=bI) x) λe app=>?_;show hQ _ tk h'.O.an bI lf (λb o j=>?_) ⟨e,app⟩ k n u a3
 ·have h1:=a b o j;rw[sortedHeap_old (298 h1) (by rw[ai.iM];exact I.Qd (ai.cQ h1))];exact 104 h1
universe e
set_option backward.match.sparseCases true
def io.acE:pn (.aB "int") "__bytes__" =b9 L:=by rw[kD,kF];kernel_rfl
section
variable{bc:gR}{w:eA}{A:dg}{E:af->ae->Prop}{s:ae}
def acF{b:bP be}{tk:Tok}{id:fS}{Q:ar (bP be×12e4)->ae->Prop}(h:Q (G (b,L)) s):41 (dL.acG id (.iQ b tk) 0):=by
 have x:=po s b tk;unfold dL.acG dL.takeBuffer?;show bg (tl ?_);show bg (iP x io.tj.bZ ?_);unfold dL.JU;show 167 (iP x io.tj.bZ ?_);try dsimp only
 rw[PE,PF,d6 aq];show oy x io.jj ?_;show 35e1 <|?_;show cL (iP x io.tj.bZ λe=>?_);exact bg (PG (bX 22e3))
def acH{a:aI}{b m:4e9}{tk:Tok}{Q:0e5}(u:A.j5=G [])(p:4e4=15e1)(hz:b.U+m.U<=16777216)
  (h:∀h',18e4=281 (b++m)->166 a h'->157 .L):134 A (260 "bytearray.extend" [2e2,.iQ ⟨m⟩ tk]) Q E s:=by
 have n:47e7 :=(51 p);have q:=po s ⟨m⟩ tk;show rh (JM BA.JH.ti 10e1 BA.abF (BA.JH.check _ _ _ _ _ _ _ _ n (BA.abL _ _) ?_));unfold Builtin.«bytearray.extend»;show fe (322 (af.N a,af.iQ ⟨m⟩ tk));show fe (iP q io.tj.bZ λx=>?_);show thR cI <|?_;show fe (ny λx=>?_);show fe (uU p λx=>?_);show fe (acF λx=>?_);show thR cI <|?_;have wr:aY (bh bc w) A.fg (do dL.uV (2e2) (· ++(bP.mk m));bk .L) (λeg s'=>match eg with| .kx f=>(match(Except.Y f:md)with| .Y (.bk v)=>Q v s'| .Y _=>fR| .dI e=>E e s')| .mg k=>k.sS=true/\95 A k (414 v (E e s')) s') E s:=
  bg (w5 p (by simp;lia) λh' i s'=>bX (h h' (by simpa using i) s'))
 refine aM _ _ (do
  if !(bP.mk m).jL then dL.JK 2e2
  dL.uV (2e2) (· ++(bP.mk m))
  bk .L) _ _ _
 split
 ·exact aZ (Px u p (aM.of wr))
 ·exact aM.of wr
def acI{Q:0e5}(h0:0<=n)(hz:106 n)(b:∀t k,Q (.iQ (bP.gi n.aJ 0) t) 24e6):41 (aX 27e0 [.y n tk]):=by
 show acy (Q₁:=λZ x=>x.kH Z "bytes" /\Q Z x) PySem.apu.Qf (PySem.apu.bm_typeCall _) PySem.apu.entry_object_init ?_ λZ x e=>?_
 ·show ab4 ?_;refine aY _ A.fg.fg (do w6 "bytes.__new__" (61 [27e0,.y n tk]);mg (.bJ "bytes.__new__" (61 [27e0,.y n tk]))) _ _ s;show bg (gt (PySem.apu.bm_newCall _) (bX ⟨Aw PySem.apu.bm_plain _,codeAny_builtin PySem.apu.bm_entry ?_⟩));rw[dg.Py PySem.apu.bm_plain _];unfold Builtin.«bytes.__new__»;show cL (369 true H);show 35e1 <|?_;show cL (399 PySem.apu.bm_sub);show 35e1 <|?_;show cL (399 (PySem.apu.bm_bind _));show cL (369 () H);show cL (369 () H);show 35e1 <|?_;show cL (iP (Az _ n tk) io.acE λh=>?_);show cL (369 false H);show 35e1 <|?_;show cL (iP (Az _ n tk) apu.PJ.bZ λh=>?_);show 35e1 <|?_;show cL (tl (369 n H));show sQ (by simp only[dL.fitsIndex,al.w7,al.acf,al.lb,mW];lia) λh h=>kY (by exact K.AA h0) <| sQ bN λh h=>sQ (by simp only[PH,mW,f0];lia) λh h=>?_;show cL (ny λh=>?_);show bg (wpAny_mkBytes ?_ (by rw[bP.size_replicate,f0];exact K.qx.bn hz));exact bX ⟨po _ _ _,b _ _⟩
 ·exact⟨e.1,PySem.apu.acm Z _,object_init_meets PySem.apu.Qf.jI.bZ PySem.apu.Qf.made aq bc w A.fg _ x ⟨e.1,H,e.2⟩⟩
universe e
universe e
section
open PySem PySem.W PyProof.Rows PySem.Spec PySem.SeqAt
open Builtin hiding id
set_option backward.match.sparseCases false
section
variable{bc:gR}{w:eA}{A:dg}{E:af->ae->Prop}{s:ae}
def acJ{Q:0e5}(r:A.e8=L)
  (et:xd s.M it t i) (ht:jk s.M t aP) (hx:aP[i]? =L)
  (hE:∀h' e,ai.u6 it s.M h'->(∃o,43e0=0e4/\o.bj= 44e6)->E 9e6 35e9):41 (pq.tp 32e8):=by
 unfold pq.tp;show dV (id et) λo b v hd=>?_;(show gD ht λn k h nl p=>?_;try clear ht);show bg (389 et.mX acK
  (nw acK et.mX entry_tupleiter_next ?_ (args_tupleiter_next _)))
 refine aY _ _ (ro 32e8 0>>=_) _ _ s;show cL (hF b hd (x:= .N t) H λh=>?_);refine aY _ _ (if(af.N t==af.L)=true then _ else _) _ _ s;show kY (413 ((af.N t==af.L)=true)) <|?_;refine aY _ _ (ro 32e8 1>>=_) _ _ s;show cL (hF b hd (x:= 3 i) H λh=>?_);refine aY _ _ (seqItems? (.N t)>>=_) _ _ s;show cL (AJ k p λh=>?_);simp only[K.tm,hx];show bg (ny (bg (u3 b hd (by exact aci H) ?_)));refine aY _ _ (JY 44e6 []>>=_) _ _ _;show 23e7;dsimp-fs only[JY,newTuple];show bg 51e1;show cL (m:=JZ _ _) (369 af.L (by first|rfl|(dsimp-fs only[JZ];rfl)));show 51e1;dsimp-fs only[J0];show cL (PW λh=>?_);first|rw[show A.fg.e8=L from r]|rw[r]
 show bg (bX (wpAny_throw ?_));exact hE _ _ (((ai.fy.eM ..).mq.b6 _).b6 _) ⟨_,9e9,H⟩
def acL{Q:137 ky}(R:A.e8=L)(v:i1≠z)(d:t≠z)
  (hz:tv s.M z TI TO .L) (AL:jk s.M TI #[.N i1,v2])
  (h1:xd s.M i1 t 0) (ht:jk s.M t #[])
  (hE:∀h' e,(∀c o,c≠z->c≠i1->37e1=0e4->h'.ao c=0e4)->(∃o,43e0=0e4/\o.bj= 44e6)->E 9e6 35e9):
  41 (Builtin.«zip.__next__» (61 [.N z])):=by
 refine aY _ _ (ro (.N z) 2>>=_) _ _ _;show cL (hF hz H (x:= 33e5) H λh=>?_);refine aY _ _ (ro (.N z) 3>>=_) _ _ _;show cL (hF hz H (x:= .N TI) H λh=>?_);(show gD AL λapq j h S l=>?_;try clear AL);show cL (AJ j l λh=>?_);refine aY _ _ (Builtin.pq.acM (.N z)>>=_) _ _ _;show 23e7;unfold Builtin.pq.acM;show bg (hF hz H (x:= .L) H 20e3);dsimp-fs only[wC];show cL (ny λh=>?_);show cL (hF hz H (x:= .N TO) H λh=>?_);show cL (acN hz (by simp-fs) λapp a b h=>?_);replace a:tv app z TI TO .ellipsis:=a;clear hz;show 23e7;dsimp-fs only[D.zipIdx_cons,D.zipIdx_nil,D.AM,D.forIn_nil];show 167 (acO ?_);refine aY _ _ (Builtin.pq.tp (.N i1)>>=_) _ _ _;show bg (acJ R ((by(show aN h1 λo e r=>?_;try clear h1);exact⟨o,b.mq _ _ v e,r⟩)) (ht.mq b.mq d) (by simp-fs) λi e m n=>?_);(show aN n λP p u=>?_;try clear n);have q:tv i z TI TO .ellipsis:=m _ _ v.bi a;clear a;have g:e≠z:=λx=>by subst x;rw[q]at p;cases p;simp-fs at u
 show acN q (by simp-fs) λf h k=>hE f e (λc o c1 c3 x=>k.mq _ _ c1 (m _ _ c3 (b.mq _ _ c1 x))) ⟨P,k.mq _ _ g p,u⟩
def acP{Q:12e4->ae->Prop}(m:A.e8=L)(a:i1≠z)(k:t≠z)
  (hz:tv s.M z TI TO .L) (AL:jk s.M TI #[.N i1,v2]) (h1:xd s.M i1 t 0) (ht:jk s.M t #[])
  (hQ:∀h',(∀c o,c≠z->c≠i1->37e1=0e4->h'.ao c=0e4)->157 L):41 (oz (.N z)):=by
 have h:s.kH (.N z) "zip" :=(51 hz);unfold oz;show bg (tl (389 h apu.acQ
  (nw apu.acQ h apu.entry_zip_next (acL m a k hz AL h1 ht λh' e r x=>?_) (apu.args_zip_next_1 _))))
 (show aN x λo p n=>?_;try clear x);show cL (oy (apq:= "StopIteration") (b:=true) ⟨o,p,n⟩ P2 λv=>?_);exact bX (hQ _ r)
universe e
abbrev Kb(h:ai)(s:aI):ai:=h.b6 (329 "tuple_iterator" #[.N s,1e4])
abbrev AO(h:ai)(s x:aI):ai:=(Kb h s).b6 (329 "list_iterator" #[.N x,1e4])
abbrev Kc(h:ai)(s x:aI):ai:=(AO h s x).b6 (307 #[.N h.O.an,.N (Kb h s).O.an])
abbrev AP(h:ai)(s x:aI):ai:=(Kc h s x).b6 (307 #[.L,.L])
abbrev xe(h:ai)(s x:aI):ai:=(AP h s x).b6 (336 45e5 #[.L,33e5,33e5,.N (AO h s x).O.an,.N (Kc h s x).O.an])
def acR(x e:aI)(xs a:16e5):
  Meets (Builtin.«zip.__new__» (61 [45e5,.N x,9e6])) (λn R s=>jk s.M x xs/\s.M.gW e a/\
   332 (.N (AP s.M x e).O.an) {s with M:=xe s.M x e}):=
 .of_wp λbc w A R s h=>by
  obtain(⟨b,g,d,tk,os⟩):=s;obtain⟨p,m,h⟩:=h;have v:=sub_zip;have r:jk (ae.M ⟨b,g,d,tk,os⟩) x xs:=p;have k:ai.gW (ae.M ⟨b.b6 (329 "tuple_iterator" #[.N x,1e4]),g,d,tk,os⟩) e a:=ai.gW.b6 m _;wp_walk using iter_tuple r,AK k;exact⟨_,H,h⟩
section
variable{bc:gR}{w:eA}{A:dg}{E:af->ae->Prop}{s:ae}
def acS{Q:0e5}(k:jk s.M l1 xs)(m:s.M.gW l2 apZ)
  (h:∀h',tv h' (180 4) (180 2) (180 3) .L->IsPair h' (180 2) 9e8 24e0->
   xd h' s.M.O.an l1 0->h'.O.an=s.M.O.an+5->
   (∀c o,37e1=0e4->h'.ao c=0e4)->157 (.N (180 4))):
  41 (aX 45e5 [.N l1,.N l2]):=by
 show acl apu.called_zip aq (apu.typeCall_zip_2 _ _) (apu.newCall_zip_2 _ _) (λZ=>apu.args_object_init_3 Z _ _) apu.entry_zip_new
  (acR l1 l2 xs apZ) ⟨k,m,?_⟩
 have p:(Kb s.M l1).O.an=s.M.O.an+1:=ai.iM ..;have b:(AO s.M l1 l2).O.an=s.M.O.an+2:=by rw[ai.iM,p]
 have r:(Kc s.M l1 l2).O.an=s.M.O.an+3:=by rw[ai.iM,b]
 have a:(AP s.M l1 l2).O.an=s.M.O.an+4:=by rw[ai.iM,r]
 have n:(xe s.M l1 l2).O.an=s.M.O.an+5:=by rw[ai.iM,a]
 have e:(xe s.M l1 l2).ao (AP s.M l1 l2).O.an=G _:=9e9;have g3:(xe s.M l1 l2).ao (AO s.M l1 l2).O.an=G _:=299 9e9;have g1:(xe s.M l1 l2).ao s.M.O.an=G _:=299 (299 9e9);refine _/\_;rw[b,r,a]at e;rw[p,b]at g3;rw[a];exact⟨(51 e),h _ e g3 ⟨_,g1,H,H⟩ n λc o x=>
  ai.eo _ (299 (299 x))⟩
universe e
universe e
section
open PySem PySem.W PyProof.Rows
set_option backward.match.sparseCases false
set_option genCtorIdx true in
inductive V where
 |aa (v:af)
 |bp (b:al) (t:al)
 |y (i:K) (t:al)
 |ag (s:am)
 |ch (b:D be)
 |X (l:D V)
 |ad (l:D V) (t:al)
 |ei (b:D be)
 |Z (i:I)
set_option genCtorIdx true in
inductive aps where
 |az (l:D V) (t:al)
 |au (l:D V)
 |bw (l:D (V×V))
 |bv (C:aI) (d:D (I×V))
 |eF (b:D be)
 |cW (k:V) (i:V)
 |a8 (C:aI) (d:D (I×V))
inductive Tg where
 |n (k:I)
 |t (l:D I)
set_option genCtorIdx true in
inductive apw where
 |c (v:V)
 |l (n:I)
 |eU (n:I)
 |oF (n:I)
 |g (n:I)
 |eY (e:apw) (n:I)
 |a2 (e i:apw)
 |kI (e:apw) (lo hi:D apw)
 |a7 (op:rI) (a b:apw)
 |oG (e:apw)
 |gZ (e:apw)
 |lg (l:D apw)
 |i6 (l:D apw)
 |bU (a:apw) (o:D jl) (l:D apw)
 |ff (c a b:apw)
 |X (l:D apw)
 |ad (l:D apw)
 |oH (k v:D apw)
 |iD (pt:apw) (tg:Tg) (it:apw) (j7:D apw)
 |aX (f:apw) (as:D apw)
 |bl (o:apw) (n:I) (as:D apw)
 |lam
 |d3 (e:apw)
set_option genCtorIdx true in
inductive apq where
 |n (k:I)
 |a (o:apw) (n:I)
 |s (o i:apw)
 |sl (o:apw) (lo hi:ar apw)
 |t (l:D apq)
set_option genCtorIdx true in
inductive S where
 |bz (t:apq) (e:apw)
 |ex (e:apw)
 |bk (e:ar apw)
 |bD (c:apw) (a b:D S)
 |lO (c:apw) (b:D S)
 |mr (t:Tg) (i:apw) (b:D S)
 |kJ (e:apw)
 |AQ (b:D S) (hs:D (apw×ar I×D S))
 |xf (b f:D S)
 |AR
structure Fn where
 ps:D I
 ds:D apw
 cX:D S
universe e
section
open PySem PySem.W
set_option backward.match.sparseCases false
def ap0:am:= "~no operation on two numbers"
def Z1:am:= "~octets"
def Z2:am:= "~tables"
def Z3:am:= "~cells"
def Z4:am:= "~limits"
def Z5:am:= "~elems"
def Z6:am:= "~datas"
def Z7:am:= "~noted"
def Z8:am:= "~steps"
def Z9:am:= "~end"
def tw:am:= "~far"
def cM:am:= "~out of bounds memory access"
def c5:am:= "~out of bounds table access"
def Qg:am:=⟨#[]⟩
def j9:am:= "~exhausted"
def h7:am:= "~call stack"
def xh:am:= "~undefined element"
def xi:am:= "~uninitialized element"
def xj:am:= "~indirect call type mismatch"
def lh:am:= "~done"
def rJ:am:= "~trap"
def Z21:am:= "~more pages than are let"
def Z22:am:= "~more elements than are let"
def Z23:am:= "~results of another kind"
def Z24:am:= "~the call is through"
def Z25:am:= "~unreachable"
def Z26:am:= "~fuel"
abbrev apw.i(n:K):apw:= .c (0 n)
abbrev apw.z:apw:= .c 0e6
abbrev apw.s(z:am):apw:= .c 7e8
abbrev apw.k(n:I)(l:23e6):apw:= 168 n l
abbrev apw.e(a b:apw):apw:= 63 a .Eq [b]
abbrev apw.w(a b:apw):apw:= 63 a .gK [b]
abbrev apw.a(n m:I):apw:= .eY (.l n) m
abbrev S.v(n:I)(x:apw):S:= .bz (.n n) x
abbrev S.r(x:apw):S:= .bk (G x)
def f84:Fn:=(4 [0,1] [.r (35 .xk 0 (79 .jm (163 .py 3e5 1) 1))])
def f91:Fn:=(4 [0,1] [.r (.ff (35 .xm 0 (35 .jm 1 (.i 1))) (35 .jm 0 (163 .py 3e5 1)) (.l 0))])
def acT:Fn:=(4 [0,2,1] [195 3 [.k 4 [.k 3 [.l 0,.l 2],.l 2],.l 1]])
def acU:Fn:=(4 [0,5,1] [195 3 [94 0 5,.l 1]])
def acV:Fn:=(4 [6,7,8,9] [60 7 [.lj,.Lt] [17e0,94 7 9] [277 [35 .jm 6 (.l 7),21e6]] [],60 8 [.lj,.Lt] [17e0,94 8 9] [277 [35 .jm 6 (.l 8),16e7]] [],.r (.z)])
def acW:Fn:=(4 [6] [98 (.g 11) [.lj,.Lt] [17e0,.g 10] [277 [.a7 .py (.i 8) (35 .jm 6 (.g 11)),21e6]],98 (.g 10) [.lj,.Lt] [17e0,79 .dw (.g 10) 3] [277 [.a7 .py (.i 8) (35 .jm 6 (.g 10)),16e7]],.r (.ff (178 6 (.g 12)) (.X [21e6,16e7]) (.z))])
def acX:Fn:=(4 [6] [60 6 [.In] [.X [.g 13,.g 14,.g 15,.g 16]] [.r (.c 47e0)] [],.r (.i6 [63 (.k 17 [17e0,.g 18,.g 19,193 (.g 21)]) .oJ [.z],63 (.k 22 [17e0]) .oJ [.z]])])
def acY:Fn:=(4 [6,0,5] [.v 23 (.k 17 [17e0,.g 24,.g 25,193 (.g 26)]),60 23 [.oJ] [.z] [.r (.aX (.a2 (.g 26) (65 23 0)) [.l 0,.l 5,65 23 1])] [],.v 23 (.k 17 [17e0,.g 27,.g 28,193 (.g 29)]),60 23 [.Is] [.z] [248 30 [.s ap0]] [],.r (.aX (.a2 (.g 29) (65 23 0)) [.l 0,.l 5,65 23 1])])
def acZ:Fn:=(4 [31] [.r (112 31 .In [.g 32])])
def ac0:Fn:=(4 [31] [.r (.ff (178 31 (.g 33)) 21e6 16e7)])
def ac1:Fn:=(4 [31] [.r (.ff (.k 34 [.l 31]) (.z) 2e3)])
def ac2:Fn:=(4 [6] [.r (112 6 .In [.X [.g 35,.g 36,.g 37]])])
def Qh:Fn:=(4 [38] [129 [.n 39,.n 40,.n 41] [.oH [] [],.oH [] [],49e2],.mr (.t [42,43]) (.k 44 [.l 38]) [38e7,.bD (.k 45 [17e0]) [221 41 46 [5e9]] [.bD (178 6 (.g 47)) [142 (.l 40) (115 41 36e8) 5e9] [250 (.lg [178 6 (.g 48),.w (.l 41) 25e0]) [.v 49 (.bl (.l 41) 50 []),142 (.l 39) 29e9 5e9,60 49 [.In] [.l 40] [142 (.l 39) (115 40 29e9) 5e9] []]]]],277 [.l 39,.l 40]])
def ac3:Fn:=(4 [51] [.v 23 2e3,.mr (.t [52,53]) (.k 44 [.l 51]) [.v 23 (35 .BitOr 23 (35 .py 53 (223 (.i 8) 52)))],.r (.l 23)])
def ac4:Fn:=(4 [54,55] [195 56 [.iD (79 .xk (.a7 .xm (.oF 54) (223 (.i 8) 52)) 255) (.n 52) (.k 57 [.l 55]) []]])
def ac5:Fn:=(4 [42,9,55,58] [333 [63 5e9 .Lt [2e3],112 9 .Lt [2e3],63 (94 42 9) .Gt [.l 55]] [248 59 [35e2]]])
def ac6:Fn:=(4 [31,60] [250 (.lg [.k 34 [.l 31],112 60 .Is [.z]]) [.r (.c 47e0)],333 [.oG (.k 61 [.l 60,.g 62]),.k 61 [.l 60,.g 63],112 60 .Lt [2e3]] [46e0],.r (.i6 [.k 34 [.l 31],.lg [112 31 .In [.X [.g 33,.g 64]],112 60 .Lt [.a7 .py 3e5 (.k 65 [.l 31])]]])])
def ac7:Fn:=(4 [66,67] [250 (.w (194 66) (194 67)) [46e0],195 68 [.iD (.k 69 [.l 31,.l 60]) (.t [31,60]) (.k 70 [.l 66,.l 67]) []]])
def ac8:Fn:=(4 [55,71,72,73] [.v 23 (94 55 71),333 [112 71 .Lt [2e3],112 23 .Gt [.l 73],.lg [112 72 .oJ [.z],112 23 .Gt [.l 72]]] [.r (.z)],.r (.l 23)])
def ac9:Fn:=(4 [] [269 [.X [5e7,5e7],.X [.X [36e8],5e7],.X [.X [.gZ 4e7],5e7],.X [.X [.gZ 16e6],5e7],.X [.X [.gZ (.i 17)],5e7],.X [.X [36e8,.gZ 4e7],.X [.gZ 4e7]]]])
def ada:Fn:=(4 [] [.v 74 (.oH [.i 40,.i 41,.i 44,.i 45,.i 46,.i 47] [.X [17e9,2e3,21e6],.X [.i 8,2e3,16e7],.X [3e5,3e5,21e6],.X [3e5,2e3,21e6],.X [4e7,3e5,21e6],.X [4e7,2e3,21e6]]),221 74 75 [.oH [.i 48,.i 49,.i 50,.i 51,.i 52,.i 53] [.X [3e5,3e5,16e7],.X [3e5,2e3,16e7],.X [4e7,3e5,16e7],.X [4e7,2e3,16e7],.X [17e9,3e5,16e7],.X [17e9,2e3,16e7]]],221 74 75 [.oH [.i 54,.i 55,.i 58,.i 59,.i 60,.i 61] [.X [17e9,2e3,21e6],.X [.i 8,2e3,16e7],.X [3e5,2e3,21e6],.X [4e7,2e3,21e6],.X [3e5,2e3,16e7],.X [4e7,2e3,16e7]]],142 (.l 74) (.i 62) (.X [17e9,2e3,16e7]),.r (.l 74)])
def adb:Fn:=(4 [76] [.r (239 [2e3,3e5,36e8,79 .jm (79 .kK 4e7 31) 1,.gZ (79 .kK 4e7 31),.i 255,.gZ (.i 129),173 1000] (173 8))])
def f1351:Fn:=(4 [77,78] [197 77 1 [.r (.ff (63 (233 78 2) .Eq [2e3]) (.ad [.X [21e6,2e3]]) (.ad [.X [.i 208,.gZ (.i 17)]]))] [],.r (.ff (63 (233 78 3) .Eq [2e3]) (.ad [.X [.i 208,.gZ 16e6]]) (.ad [.X [.i 210,310 78 3 6]]))])
def f1358:Fn:=(4 [76,72] [269 [.X [16e8,35 .bo 76 (.l 72)],.X [16e8,163 .bo (35 .ce 76 (.l 72)) 72],.X [16e8,284 (35 .ce 76 (35 .kK 72 (.i 2))) 8]]])
def f1363:Fn:=(4 [79,76] [98 (.eU 79) [.Lt] [17e9] [.v 80 (.iD 17e0 (.n 6) (.k 81 [.k 82 []]) [63 (112 6 .Lt [.i 54]) .Eq [63 (.oF 79) .Lt [4e7]]]),.v 6 (115 80 (35 .bo 76 (194 80))),129 [.n 1,.n 78] [.a2 (.a2 (.k 82 []) 17e0) 4e7,35 .ce 76 (194 80)],98 (.eU 79) [.Lt] [4e7] [269 [.X [16e8,233 78 17],.X [17e0,2e3,310 78 17 3],.X [16e6,189 1 32 3e5 4e7]]],.v 54 (189 1 32 (.k 83 [212 78 34]) (239 [.k 83 [212 78 34],163 .jm (79 .jm (79 .kK 4e7 63) 1) 78,163 .dw (.gZ (79 .kK 4e7 63)) 78] (233 78 3))),269 [.X [16e8,233 78 17],.X [189 1 32 16e8 (.i 66),.l 54],.X [17e0,2e3,310 78 17 2]]],250 (.e (.eU 79) 17e9) [269 [.X [.i 63],.X [16e6,3e5]]],250 (.e (.eU 79) (.i 5)) [269 [.X [16e8,239 [2e3,3e5,4e7,36e8] (173 4)],.X [16e7],.X [16e6,3e5]]],250 (.e (.eU 79) (.i 6)) [269 [.X [16e8,173 18],.X [16e8,79 .jm (310 76 18 700) 100],.X [16e8,310 76 12600 7],.X [.i 64523]]],250 (.e (.eU 79) (.i 7)) [.r (330 (.k 84 [.l 76,.i 18]) [.X [.i 64522]])],.r (.ff (.e (.eU 79) (.i 8)) (330 (.k 84 [212 76 2,.i 17]) [.X [.i 64520,173 2]]) (.ad [.X [.i 64521,173 2]]))])
def f1370:Fn:=(4 [79,76] [.v 77 (173 3),.v 78 (212 76 3),197 79 12 [269 [.X [16e8,233 78 8],.X [.i 37,.l 77],.X [16e6,189 77 1 17e9 24e2]]] [],197 79 13 [.r (330 (213 (.ad [.X [16e8,233 78 8]]) (.k 85 [.l 77,212 78 8])) [.X [.i 38,.l 77]])] [],197 79 14 [269 [.X [.i 64528,.l 77],.X [16e6,3e5]]] [],197 79 15 [.r (330 (.k 85 [.l 77,.l 78]) [.X [16e8,239 [2e3,3e5,4e7,24e2,36e8] (310 78 18 5)],.X [.i 64527,.l 77],.X [16e6,3e5]])] [],197 79 16 [.r (330 (213 (.ad [.X [16e8,233 78 6]]) (.k 85 [.l 77,212 78 6])) [.X [16e8,310 78 108 5],.X [.i 64529,.l 77]])] [],197 79 17 [.bz (.t [.n 86,.n 49]) (239 [.X [2e3,4e7],.X [4e7,2e3],.X [2e3,2e3],.X [3e5,3e5],.X [4e7,4e7]] (173 5)),.r (330 (.k 84 [212 76 5,.i 6]) [.X [.i 64526,.l 86,29e9]])] [],197 79 18 [.bz (.t [.n 87,.n 88]) (239 [.X [2e3,2e3],.X [2e3,4e7],.X [3e5,3e5]] (.l 77)),.r (330 (.k 84 [.l 78,.i 6]) [.X [.i 64524,.l 87,.l 88]])] [],269 [.X [.i 64525,173 2]]])
def f1377:Fn:=(4 [0] [.v 79 (233 0 24),.v 76 (212 0 24),60 79 [.Lt] [.i 10] [195 89 [.l 79,.l 76]] [],197 79 10 [269 [.X [.i 35,173 3],.X [16e6,213 3e5 (173 3)]]] [],197 79 11 [.v 60 (.ff (63 (173 3) .Eq [4e7]) (.k 85 [2e3,212 76 3]) (.ad [.X [213 16e8 (173 3),.k 83 [212 76 3]]])),.r (35 .dw 60 (.ad [.X [.i 36,173 3]]))] [],60 79 [.Lt] [.i 20] [195 90 [.l 79,.l 76]] [],197 79 20 [.r (330 (.k 85 [173 2,212 76 2]) [.X [.i 209],.X [16e6,3e5]])] [],.v 91 (.ad [.X [16e8,.k 83 [.l 76]],.X [.i 66,.k 83 [212 76 8]]]),197 79 23 [.r (35 .dw 91 (.ad [.X [16e6,.i 5],.X [16e6,4e7]]))] [],.v 31 (239 [.i 5,.i 5,3e5,4e7] (173 4)),.v 92 (189 31 5 (.l 91) (.kI (.l 91) [(35 .jm 31 (.i 1))] [(.l 31)])),.r (213 (35 .dw 92 (.ad [.X [16e8,310 76 8 8],.X [.i 17,.l 31,239 [2e3,4e7] (310 76 4 2)]])) (189 31 5 (.ad [.X [16e6,4e7]]) 25e0))])
def Qi:Fn:=(4 [93] [.v 38 49e2,.mr (.n 54) (.kI 35e3 [] [(.i 6)]) [221 38 94 [.k 95 [233 54 100000007]]],98 (194 93) [.Gt] [.i 6] [221 38 94 [.ad [.X [16e8,284 (65 93 6) 100],.X [16e8,284 (79 .ce (65 93 6) 100) 7],.X [.i 19,3e5,239 [2e3,4e7] (284 (79 .ce (65 93 6) 700) 2)]]]],.r (35 .dw 38 (.ad [.X [.i 11]]))])
def f1389:Fn:=(4 [93] [.v 96 (.k 97 [35e3]),.v 98 (.oH [.s Z1,.s Z2] [.d3 (.iD (284 (213 (.oF 96) (223 (.i 37) 99)) 256) (.n 99) (.k 57 [16e6]) []),.ad [355 [24e2,.z,4e7,3e5],355 [.z,.i 6],355 [2e3,24e2,.z]]]),129 [.s 17e4 (.s Z3),.s 17e4 (.s Z4)] [355 [.a7 .bo (.eU 96) (79 .kK 4e7 32),.a7 .bo (79 .f4 (.eU 96) 7) (79 .kK 4e7 64),.z],.ad [.i 6,17e9,.i 7]],129 [.s 17e4 (.s Z5),.s 17e4 (.s Z6)] [355 [.ad [24e2,.z,4e7,3e5],.ad [.z,.i 5]],355 [.k 56 [.iD (284 (163 .dw (.oF 96) 99) 256) (.n 99) (.k 57 [.i 8]) []],.c (.ch [120,121])]],129 [.s 17e4 (.s Z7),.s 17e4 (.s Z8),.s 17e4 (.s Z9),.s 17e4 (.s tw)] [49e2,2e3,.z,284 (.eU 96) 1000],.r 17e4])
def vc:Fn:=(4 [31,100] [195 101 [.a2 (.k 102 []) (.eU 31),.lam]])
def f1401:Fn:=(4 [93,98,38,100] [129 [.n 103,.n 104,.n 105] [.k 102 [],.k 106 [16e6,24e2,.i 7],.k 107 []],129 [.n 108,.n 109] [.k 110 [.k 111 [.l 103,25e0]],.k 110 [.k 111 [.l 103,25e0]]],129 [.a 43e8 112,.a 43e8 113,.a 43e8 114,.a 43e8 115] [.ad [3e5,4e7,2e3,17e9,.i 5,24e2],.ad [3e5,2e3,4e7],.ad [3e5],.ad [4e7,2e3,24e2]],129 [.a 43e8 116,.a 43e8 117] [.d3 (.iD (225 [.l 119]) (.n 119) (75 Z5) []),.d3 (225 [75 Z6])],207 (.l 109) 115 (.ad [3e5]),.v 120 (.k 121 [.i 5,5e7,.ad [.X [21e6,3e5],.X [.i 35,2e3],.X [.i 124],.X [.i 11]]]),.v 122 (.iD (.k 123 [.l 31,.oF 100]) (.n 31) (.X [4e7,3e5,24e2,17e9]) []),207 (.l 105) 112 (.ad [65 122 0,.k 124 [65 103 4,43e8,.k 121 [17e9,5e7,.l 38]],65 122 1,.k 124 [65 103 5,.l 109,.l 120],65 122 2,65 122 3]),207 (.l 105) 113 (.ad [.k 125 [.gZ (.i 17),4e7,17e9,.l 104],.k 125 [.gZ 16e6,17e9,.i 6,.l 104],.k 125 [.gZ 16e6,24e2,.z,.l 104]]),.mr (.t [52,126]) (.k 44 [.a 108 113]) [207 (.a2 (.a 105 113) 25e4) 119 (.d3 (225 [303 Z2 (.l 52)]))],207 (.l 105) 114 (.ad [.k 127 [3e5,3e5,.l 104],.k 127 [3e5,4e7,.l 104]]),103 (.a2 (.a 105 114) 3e5) 128 [2e3,.k 56 [75 Z1]],.v 129 (75 Z3),207 (.l 105) 115 (.ad [.k 130 [.gZ 4e7,3e5,65 129 1],.k 130 [.gZ 4e7,2e3,75 tw],.k 130 [36e8,3e5,65 129 0],.k 130 [.gZ 16e6,3e5,.z]]),277 [.l 105,43e8]])
def f1406:Fn:=(4 [98,131,132] [.bz (.t [.n 55,.n 133,.n 1]) (.a2 (.k 82 []) (262 0)),129 [.n 51,.n 54] [75 Z1,.z],98 (262 0) [.oK] [.i 54] [.v 54 22e9],.v 42 (213 22e9 (262 2)),98 (163 .dw (.eU 42) 55) [.Gt] [193 (.eU 51)] [.r (.s cM)],60 54 [.oJ] [.z] [.mr (.n 99) (.k 57 [.l 55]) [142 (.eU 51) (163 .dw (.eU 42) 99) (284 (35 .ce 54 (163 .kK (.i 256) 99)) 256)],.r (.z)] [],.v 23 (.k 97 [.iD (.a7 .f4 (.a2 (.oF 51) (163 .dw (.oF 42) 99)) (163 .kK (.i 256) 99)) (.n 99) (.k 57 [.l 55]) []]),250 (.lg [178 133 (.i 1),112 23 .oK [.a7 .kK 4e7 (79 .jm (223 (.i 8) 55) 1)]]) [.v 23 (213 (35 .jm 23 (.a7 .kK 4e7 (223 (.i 8) 55))) (163 .kK 4e7 1))],290 [.l 23],.r (.z)])
def f1413:Fn:=(4 [134,71,72,55,135] [.v 136 (163 .ce (194 134) 55),98 (94 136 71) [.Gt] [.l 72] [.r (79 .jm (79 .kK 4e7 32) 1)],221 134 94 [.a7 .f4 (.ad [.l 135]) (35 .f4 71 (.l 55))],.r (.l 136)])
def Qj:Fn:=(4 [88,42,137,49,9,58] [333 [63 (94 49 9) .Gt [194 137],63 (94 42 9) .Gt [194 88]] [.r 35e2],.mr (.t [99,60]) (.k 44 [.kI (.l 137) [29e9] [(94 49 9)]]) [142 (.l 88) (94 42 99) (.l 60)],.r (.z)])
def f1427:Fn:=(4 [98,131,132] [129 [.n 6,.n 113] [262 0,75 Z2],49 64527 [129 [.n 71,.n 60] [22e9,22e9],290 [.k 138 [115 113 23e9,.l 71,303 Z4 23e9,3e5,.l 60]],.r (.z)] [],129 [.n 9,.n 139,.n 42] [22e9,22e9,22e9],60 6 [.In] [.X [.i 64520,.i 64522,.i 64523]] [129 [.n 137,.n 49] [75 Z1,38e0],49 64520 [.v 137 (225 [.i6 [303 Z6 23e9,.c (.ch [])]])] [],49 64523 [129 [.n 137,.n 49] [223 (.ad [233 139 256]) 9,2e3]] [],195 140 [75 Z1,5e9,.l 137,29e9,15e4,.s cM]] [],.v 88 (115 113 (189 6 64524 (262 2) 23e9)),49 64529 [.r (.ff (63 (94 42 9) .Gt [194 88]) (.s c5) (.k 140 [.l 88,5e9,223 (.ad [38e0]) 9,2e3,15e4,.s Qg]))] [],.v 137 (189 6 64524 (225 [.i6 [303 Z5 23e9,25e0]]) (225 [115 113 (262 2)])),195 140 [.l 88,5e9,.l 137,38e0,15e4,.s c5]])
def f1434:Fn:=(4 [98,126,132,141] [.v 66 (.ad [4e7,17e9,3e5,.i 5,24e2,17e9]),.bD (.w 25e4 24e2) [103 (75 Z7) 46 [.X [115 66 25e4,.ad [22e9]]]] [197 141 1 [142 17e4 (.s Z9) (.X [.s j9,.s h7])] [129 [.n 139,.n 96] [22e9,22e9],290 [.a7 .bo (35 .dw 139 (75 tw)) (79 .kK 4e7 64)],142 17e4 (.s Z8) (79 .dw (75 Z8) 4)]],.r (.z)])
def f1441:Fn:=(4 [98,131,132,141] [129 [.n 119,.n 42] [303 Z2 (262 2),22e9],98 5e9 [.oK] [194 119] [.r (.s xh)],98 (115 119 5e9) [.Is] [.z] [.r (.s xi)],98 (239 [4e7,17e9,3e5,.i 5,24e2,17e9] (115 119 5e9)) [.gK] [23e9] [.r (.s xj)],195 142 [17e4,115 119 5e9,36e0,.l 141]])
def f1448:Fn:=(4 [98,131,132,141] [129 [.n 6,.n 113] [262 0,75 Z2],60 6 [.In] [.X [16e8,.i 66]] [290 [.a7 .bo 23e9 (.a7 .kK 4e7 (189 6 65 21e6 16e7))]] [60 6 [.In] [.X [21e6,.i 208,.i 210]] [290 [189 6 32 (.i 9) (189 6 208 (.z) (239 [3e5,4e7,2e3,17e9,.i 5,24e2] 23e9))]] [49 209 [290 [.k 62 [63 22e9 .Is [.z]]]] [49 16 [195 142 [17e4,239 [3e5,4e7,2e3,17e9,.i 5,24e2] 23e9,36e0,.l 141]] [60 6 [.In] [.X [.i 17,.i 19]] [195 143 [17e4,.l 131,36e0,.l 141]] [49 35 [290 [303 Z3 23e9]] [49 36 [142 (75 Z3) 23e9 22e9] [60 6 [.In] [.X [.i 37,.i 38]] [.v 60 (189 6 38 22e9 (.z)),.v 42 22e9,98 5e9 [.oK] [193 (115 113 23e9)] [.r (.s c5)],49 38 [142 (115 113 23e9) 5e9 (.l 60)] [290 [.a2 (115 113 23e9) 5e9]]] [60 6 [.In] [.X [.i 63,16e7]] [.v 71 (189 6 64 22e9 2e3),290 [.k 138 [75 Z1,.l 71,4e7,16e6,2e3]]] [60 6 [.Lt] [16e7] [195 144 [17e4,.l 131,36e0]] [60 6 [.In] [.X [.i 64521,.i 64525]] [142 (115 98 (189 6 64521 (.s Z6) (.s Z5))) 23e9 (.z)] [49 64528 [290 [193 (115 113 23e9)]] [195 145 [17e4,.l 131,36e0]]]]]]]]]]]]],.r (.z)])
def Qk:Fn:=(4 [98,38,141] [.v 132 49e2,.mr (.n 131) (.l 38) [142 17e4 (.s Z8) (79 .dw (75 Z8) 1),98 (262 0) [.Eq] [.i 11] [277 [.s lh,.k 146 [36e0]]],.v 58 (.k 147 [17e4,.l 131,36e0,.l 141]),333 [112 58 .oJ [.z],63 (75 Z9) .oJ [.z]] [.r (.ff (112 58 .oJ [.z]) (.X [.s rJ,35e2]) (75 Z9))],98 (262 0) [.Eq] [.i 19] [277 [.s lh,.k 146 [36e0]]]],.r (.z)])
def f1462:Fn:=(4 [148] [.AQ [221 148 151 []] [(.g 59,G 149,[277 [.s rJ,.a 149 58]]),(.g 150,G 149,[277 [.s j9,.a 149 58]])],277 [.s lh,.k 146 [.a 148 132]]])
def qy:Fn:=(4 [93] [129 [.n 38,.n 98,.n 100] [.k 152 [35e3],.k 153 [35e3],49e2],.bz (.t [.n 105,.n 108]) (.k 154 [35e3,17e4,.l 38,.l 100]),.v 141 (.ff (.lg [.w 35e3 25e0,63 (284 (65 93 0) 5) .Eq [2e3]]) 3e5 24e2),.v 155 (.k 156 [.eU 105,.z,.l 141]),.v 157 (.k 158 [.k 159 [.l 155,3e5,.ad [.i 9]]]),333 [.w (.l 157) (.k 160 [17e4,.l 38,.l 141]),63 (.a 155 161) .gK [75 Z8],112 100 .gK [75 Z7]] [46e0],98 (.iD (225 [.eY (209 (.oF 105) 113 25e4) 119]) (.n 126) (.a 108 113) []) [.gK] [75 Z2] [46e0],333 [63 (225 [.eY (209 (.eU 105) 114 3e5) 162]) .gK [75 Z1],63 (225 [.eY (209 (.eU 105) 114 2e3) 162]) .gK [79 .f4 (.ad [2e3]) 16]] [46e0],98 (.iD (.a 163 60) (.n 163) (.eY (.eU 105) 115) []) [.gK] [.ad [303 Z3 3e5,75 tw,303 Z3 2e3,303 Z3 4e7]] [46e0],.r (.lg [63 (.a 108 116) .Eq [75 Z5],63 (.a 108 117) .Eq [75 Z6]])])
def Ql:Fn:=(4 [164,58] [103 (.g 165) 166 [28e2,35e2],26 58 58])
def f370:Fn:=⟨[164,167,168,169,141,170],[.i 65536,.i 65536,.i 4294967295,.i 200,.z],[26 167 167,26 168 168,26 169 169,26 141 141,26 170 170]⟩
def f499:Fn:=(4 [164,171,72,104] [60 171 [.Gt] [.a 104 168] [248 30 [.s Z21]] [],26 72 72,30 167 (.a 104 167),30 168 (.a 104 168),30 162 (.k 172 [35 .f4 171 (.a 104 167)])])
def f506:Fn:=(294 [.r (.a7 .ce (267 162) (33 167))])
def f520:Fn:=(4 [164,71] [.v 136 (.bl 28e2 55 []),98 (.k 173 [.l 136,.l 71,33 72,33 168]) [.Is] [.z] [.r (.g 174)],103 43e5 94 [.k 56 [35 .f4 71 (33 167)]],.r (.l 136)])
def f527:Fn:=(4 [164,42,9] [.ex (.k 175 [5e9,15e4,267 162,.g 176])])
def f534:Fn:=(4 [164,42,55] [255 [5e9,.l 55],195 178 [.kI 43e5 [5e9] [(94 42 55)]]])
def f541:Fn:=(4 [164,42,55,54] [255 [5e9,.l 55],.bz (.sl 43e5 (G 5e9) (G (94 42 55))) (.k 179 [35 .xk 54 (79 .jm (.a7 .py 3e5 (223 (.i 8) 55)) 1),.l 55])])
def f555:Fn:=(4 [164,42,51] [255 [5e9,194 51],.bz (.sl 43e5 (G 5e9) (G (35 .dw 42 (194 51)))) (.l 51)])
def f562:Fn:=(4 [164,42,54,9] [255 [5e9,15e4],.bz (.sl 43e5 (G 5e9) (G (94 42 9))) (223 (.k 56 [.ad [35 .xk 54 (.i 255)]]) 9)])
def f569:Fn:=(4 [164,86,49,9] [255 [29e9,15e4],255 [.l 86,15e4],.bz (.sl 43e5 (G (.l 86)) (G (94 86 9))) (.kI 43e5 [29e9] [(94 49 9)])])
def f576:Fn:=(4 [164,42,51,49,9] [.v 134 (.ff (112 51 .Is [.z]) (.c (.ch [])) (.l 51)),.ex (.k 175 [29e9,15e4,194 134,.g 176]),255 [5e9,15e4],.bz (.sl 43e5 (G 5e9) (G (94 42 9))) (.kI (.l 134) [29e9] [(94 49 9)])])
def f604:Fn:=(4 [164,31,171,72,104] [60 171 [.Gt] [.a 104 169] [248 30 [.s Z22]] [],26 31 31,26 72 72,30 169 (.a 104 169),30 119 (223 (.ad [.z]) 171)])
def f611:Fn:=(294 [.r (267 119)])
def f625:Fn:=(4 [164,42,9] [.ex (.k 175 [5e9,15e4,267 119,.g 180])])
def f632:Fn:=(4 [164,42] [255 [5e9,3e5],.r (.a2 (33 119) 5e9)])
def f639:Fn:=(4 [164,42,60] [255 [5e9,3e5],142 (33 119) 5e9 (.l 60)])
def f646:Fn:=(4 [164,71,60] [.v 136 (267 119),98 (.k 173 [.l 136,.l 71,33 72,33 169]) [.Is] [.z] [.r (.g 174)],103 (33 119) 94 [223 (.ad [.l 60]) 71],.r (.l 136)])
def f653:Fn:=(4 [164,42,60,9] [255 [5e9,15e4],.bz (.sl (33 119) (G 5e9) (G (94 42 9))) (223 (.ad [.l 60]) 9)])
def f660:Fn:=(4 [164,86,137,49,9] [221 137 177 [29e9,15e4],255 [.l 86,15e4],.bz (.sl (33 119) (G (.l 86)) (G (94 86 9))) (.kI (.a 137 119) [29e9] [(94 49 9)])])
def f667:Fn:=(4 [164,42,119,49,9] [.v 134 (.ff (112 119 .Is [.z]) 25e0 (.l 119)),.ex (.k 175 [29e9,15e4,194 134,.g 180]),255 [5e9,15e4],.bz (.sl (33 119) (G 5e9) (G (94 42 9))) (.kI (.l 134) [29e9] [(94 49 9)])])
def f695:Fn:=(4 [164,31,181,60] [26 31 31,26 181 181,26 60 60])
def f744:Fn:=(4 [164,31,182,183] [26 31 31,26 182 182,26 183 183])
def f751:Fn:=(294 [46e0])
def f772:Fn:=(4 [164,31,184] [26 31 31,26 184 184])
def f779:Fn:=(294 [.r (.c 47e0)])
def f786:Fn:=(4 [164,67] [.v 23 (225 [217 184 [225 [.l 67]]]),250 (.oG (.k 185 [.a2 (33 31) 3e5,.l 23])) [248 30 [.s Z23]],.r (.l 23)])
def f807:Fn:=(4 [164,186] [26 186 186,30 66 (225 [.a 186 66]),30 112 25e0,30 113 25e0,30 114 25e0,30 115 25e0,30 116 25e0,30 117 25e0,30 187 (.oH [] [])])
def f842:Fn:=(4 [164,188] [142 (33 116) (.l 188) (.z)])
def f849:Fn:=(4 [164,188] [142 (33 117) (.l 188) (.z)])
def f870:Fn:=(4 [164,66,112] [26 66 66,26 112 112])
def f891:Fn:=(294 [30 112 25e0])
def f912:Fn:=(4 [164,189,190,191,192] [26 189 189,26 190 190,26 191 191,26 192 192])
def f940:Fn:=(4 [164,126,183,193,194,195] [26 126 126,30 182 (.a 183 182),30 38 (.eY (.a 183 183) 38),30 190 (193 (.a2 (.a 183 31) 3e5)),30 39 (65 193 0),30 40 (65 193 1),26 196 194,26 195 195,30 42 2e3,30 197 (355 [.k 198 [267 38,33 190,.l 195,.c 30e9]])])
def f947:Fn:=(294 [.r (63 (33 42) .oK [267 38])])
def f975:Fn:=(4 [164,155,126,67] [26 155 155,30 105 (.a 155 105),30 199 (.a 155 199),30 132 (.d3 (225 [.l 67])),30 200 49e2,30 201 (.c 30e9),74 202 [25e4]])
def f982:Fn:=(294 [.r (.e (267 200) 2e3)])
def f989:Fn:=(294 [.r (213 (33 199) (267 200))])
def Kd:Fn:=⟨[164,9],[.z],[.v 203 2e3,.lO (.lg [63 (267 200) .Gt [2e3],.i6 [112 9 .Is [.z],112 203 .Lt [15e4]]]) [74 204 [],.v 203 (35 .dw 203 (.i 1))],.r (.l 203)]⟩
def f1011:Fn:=(294 [333 [.bl 28e2 205 [],33 201] [248 30 [.s Z24]],103 43e4 206 [],.v 207 (.a2 (33 200) 36e8),.v 208 (.a 207 42),.v 43 (.a2 (.a 207 38) (.l 208)),207 9e2 42 (35 .dw 208 (.i 1)),30 201 (.c 47e0),74 209 [9e2,.l 208,25e8],30 201 (.c 30e9),.lO (.lg [63 (267 200) .Gt [2e3],.bl (.a2 (33 200) 36e8) 205 []]) [103 (33 200) 50 []]])
def f1018:Fn:=(4 [164,207,208,43] [38e7,.bD (.bU (.i 69) [.lj,.lj] [17e0,.i 196]) [74 54 [17e0]] [.bD (.i6 [112 6 .lj [16e6],178 6 (.i 18)]) [74 210 [9e2,.l 208,25e8]] [.bD (.bU (.i 26) [.lj,.lj] [17e0,.i 34]) [74 211 [9e2,25e8]] [49 65 [174 [.k 3 [17e6,21e6]]] [49 66 [174 [.k 3 [17e6,16e7]]] [74 71 [9e2,25e8]]]]]]])
def f1032:Fn:=(4 [164,6] [220 212,.bD (.k 213 [17e0]) [174 [.k 214 [17e0,.l 212]]] [174 [.k 215 [17e0,28e4,.l 212]]]])
def f1039:Fn:=(4 [164,207,43] [38e7,49 32 [174 [.a2 (.a 207 196) 17e6]] [49 33 [142 (.a 207 196) 17e6 28e4] [49 34 [142 (.a 207 196) 17e6 (.a2 26e6 36e8)] [49 26 [103 26e6 50 []] [.v 216 (63 28e4 .gK [2e3]),220 139,220 96,174 [.ff (.l 216) (.l 96) 38e0]]]]]])
def f1046:Fn:=(4 [164,207,208,43] [38e7,.bD (178 6 (.g 48)) [103 (.a 207 197) 50 []] [49 12 [74 217 [9e2,17e6]] [49 13 [98 28e4 [.gK] [2e3] [74 217 [9e2,17e6]]] [.bD (.i6 [178 6 (.g 35),178 6 (.g 36)]) [74 49 [9e2,.l 208,25e8]] [.bD (178 6 (.g 37)) [74 218 [9e2,.l 208,25e8]] [.bD (178 6 (.g 47)) [207 9e2 42 (.a2 (.a 207 39) (.l 208))] [49 14 [74 219 [9e2,25e8]] [49 15 [74 220 [9e2]] [49 0 [248 59 [.g 221]] [60 6 [.oK] [16e6] [74 222 [9e2,209 37e6 112 17e6,178 6 (.i 18)]] []]]]]]]]]]])
def f1081:Fn:=(4 [164,191,9] [.v 223 (.kI 26e6 [(163 .jm (193 26e6) 9)] []),30 132 (.d3 (163 .dw (.kI 26e6 [] [(.l 191)]) 223))])
def f1095:Fn:=(4 [164,207,126,224] [250 (.l 224) [74 225 [.a 207 195,193 (209 (324 112 25e4) 31 2e3)],103 (33 200) 50 []],74 202 [25e4]])
def f1107:Fn:=(4 [164,126] [98 (.bl 28e2 141 []) [.oK] [.eY 43e4 141] [248 150 [.g 226]],.v 183 (324 112 25e4),.v 195 (.a7 .jm (193 26e6) (193 (.a2 (.a 183 31) 2e3))),.v 194 (213 (.kI 26e6 [(.l 195)] []) (.iD (.k 227 [.l 31]) (.n 31) (.eY (.a 183 183) 196) [])),30 132 (.d3 (.kI 26e6 [] [(.l 195)])),103 (33 200) 46 [.k 228 [25e4,.l 183,.bl 43e4 193 [25e4],.l 194,.l 195]],207 43e4 229 (.k 230 [.eY 43e4 229,.bl 28e2 141 []])])
def f1129:Fn:=⟨[164,105,170,141],[.z,.i 200],[26 105 105,26 170 170,26 141 141,30 161 2e3,30 229 2e3,30 199 2e3,30 231 (.oH [] [])]⟩
def f1136:Fn:=(294 [250 (.lg [63 (33 170) .oJ [.z],63 (33 161) .oK [33 170]]) [248 150 [.g 232]],30 161 (79 .dw (33 161) 1)])
def f1157:Fn:=(4 [164,126] [60 126 [.AS] [33 231] [142 (33 231) 25e4 (.k 233 [.eY (.eY (324 112 25e4) 183) 38])] [],.r (.a2 (33 231) 25e4)])
def f1206:Fn:=(4 [164,207,43] [38e7,60 6 [.lj] [.i 19] [74 222 [9e2,217 234 [9e2,25e8],178 6 (.i 19)]] [60 6 [.lj] [.i 36] [74 163 [9e2,25e8]] [60 6 [.lj] [.i 38] [74 235 [9e2,25e8]] [60 6 [.lj] [16e7] [74 236 [9e2,25e8]] [60 6 [.lj] [.i 210] [74 237 [9e2,25e8]] [60 6 [.Lt] [.i 64524] [74 51 [9e2,25e8]] [74 169 [9e2,25e8]]]]]]]])
def f1213:Fn:=(4 [164,207,43] [.v 119 (.eY (217 238 [9e2,65 43 2]) 119),220 42,98 5e9 [.oK] [194 119] [248 59 [.g 239]],98 (115 119 5e9) [.Is] [.z] [248 59 [.g 240]],98 (.eY (324 112 (115 119 5e9)) 31) [.gK] [209 37e6 66 17e6] [248 59 [.g 241]],.r (115 119 5e9)])
def f1220:Fn:=(4 [164,126] [.v 183 (324 112 25e4),.bD (.bl (.l 183) 242 []) [.v 195 (.a7 .jm (193 26e6) (193 (.a2 (.a 183 31) 2e3))),.v 67 (.kI 26e6 [(.l 195)] []),30 132 (.d3 (.kI 26e6 [] [(.l 195)])),103 26e6 94 [217 243 [.l 183,.l 67]]] [74 244 [25e4]]])
def f1227:Fn:=(4 [164,183,67] [.v 245 (.eY 43e4 199),207 43e4 199 (.bl 28e2 141 []),.xf [.r (.bl (.l 183) 148 [.l 67])] [207 43e4 199 (.l 245)]])
def f1234:Fn:=(4 [164,207,43] [.v 163 (324 115 (209 37e6 115 17e6)),.bD (.bU (65 43 0) [.Eq] [.i 35]) [174 [.a 163 60]] [207 (.l 163) 60 28e4]])
def f1241:Fn:=(4 [164,207,43] [.v 77 (217 238 [9e2,17e6]),.bD (.bU (65 43 0) [.Eq] [.i 37]) [174 [.bl (.l 77) 246 [28e4]]] [220 60,221 77 247 [28e4,.l 60]]])
def f1248:Fn:=(4 [164,207,188] [.r (324 113 (209 37e6 113 (.l 188)))])
def f1255:Fn:=(4 [164,207] [.r (324 114 (209 37e6 114 2e3))])
def f1262:Fn:=(4 [164,207,43] [38e7,.v 236 (217 248 [9e2]),60 6 [.In] [.g 249] [.bz (.t [.n 31,.n 51,.n 133]) (.a2 (.g 249) 17e0),.v 54 (.bl (.l 236) 250 [213 28e4 (65 43 2),.l 51]),174 [189 133 1 (.k 251 [.l 54,223 (.i 8) 51,.k 65 [.l 31]]) (.l 54)]] [60 6 [.In] [.g 252] [220 54,221 236 105 [213 28e4 (65 43 2),.a2 (.a2 (.g 252) 17e0) 3e5,.l 54]] [49 63 [174 [.bl (.l 236) 55 []]] [174 [.bl (.l 236) 253 [28e4]]]]]])
def f1269:Fn:=(4 [164,207,43] [38e7,49 64521 [103 37e6 254 [17e6],.bk L] [],220 9,220 139,220 42,.v 236 (217 248 [9e2]),49 64520 [221 236 255 [5e9,209 37e6 117 17e6,38e0,15e4]] [49 64522 [221 236 256 [5e9,38e0,15e4]] [221 236 257 [5e9,38e0,15e4]]]])
def f1276:Fn:=(4 [164,207,43] [38e7,49 208 [174 [.z]] [49 209 [174 [.ff (63 28e4 .Is [.z]) 3e5 2e3]] [174 [209 37e6 112 17e6]]]])
def f1283:Fn:=(4 [164,207,43] [38e7,49 64525 [103 37e6 258 [17e6]] [49 64528 [174 [.bl (217 238 [9e2,17e6]) 55 []]] [49 64527 [220 9,174 [.bl (217 238 [9e2,17e6]) 253 [15e4,28e4]]] [74 259 [9e2,25e8]]]]])
def f1290:Fn:=(4 [164,207,43] [38e7,220 9,220 139,220 42,49 64524 [103 (217 238 [9e2,65 43 2]) 255 [5e9,209 37e6 116 17e6,38e0,15e4]] [49 64526 [.v 137 (217 238 [9e2,65 43 2]),103 (217 238 [9e2,17e6]) 256 [5e9,.l 137,38e0,15e4]] [103 (217 238 [9e2,17e6]) 257 [5e9,38e0,15e4]]]])
def f1309:Fn:=(4 [164,31,260,38] [26 31 31,26 196 260,26 38 38])
def gl:0e1:=[(20,354 "len"),(59,5 51),(118,.aa 19e6),(3,5 84),(175,5 459),(44,.aa 47e1),(56,.aa 27e0),(57,.aa (.aB "range")),(140,5 1420),(30,5 75),(35,1e8),(36,3e4),(37,10e8),(47,3e8),(48,21e2),(138,5 1413),(142,5 1434),(146,.aa 26e5),(150,5 63),(173,5 478),(174,44e8),(176,2e7),(180,3e9),(249,5 406),(252,5 419),(4,5 91),(32,5 355),(33,12e9),(34,5 384),(45,5 433),(62,.aa (.aB "int")),(65,5 391),(68,354 "all"),(69,5 466),(70,.aa 45e5),(82,5 1337),(97,354 "sum"),(143,5 1441),(144,5 1406),(145,5 1427),(147,5 1448),(178,5 447),(179,5 452),(185,5 471),(198,5 922),(221,.ag Z25),(226,14e5),(227,5 398),(228,5 957),(230,354 "max"),(232,.ag Z26),(233,5 440),(239,.ag xh),(240,.ag xi),(241,.ag xj),(251,5 105),(10,0 194),(11,0 192),(12,0 172),(13,0 69),(14,0 80),(15,0 167),(16,0 173),(17,5 325),(18,0 103),(19,0 121),(21,.X [5 119,5 126,5 133]),(22,5 332),(24,0 106),(25,0 124),(26,.X [5 140,5 147,5 154,5 168,5 175,5 182,5 189,5 196,5 203,5 210,5 217,5 224,5 231,5 238,5 245]),(27,0 70),(28,0 81),(61,354 "isinstance"),(63,.aa (.aB "bool")),(64,10e9),(81,354 "sorted"),(83,5 1344),(84,5 1358),(85,5 1351),(89,5 1363),(90,5 1370),(95,5 1377),(101,5 789),(102,5 1330),(106,5 373),(107,5 894),(110,5 852),(111,5 873),(121,5 1319),(123,5 1396),(124,5 754),(125,5 677),(127,5 586),(130,5 726),(152,5 1384),(153,5 1389),(154,5 1401),(156,5 1188),(158,5 1462),(159,5 1293),(160,5 1455),(165,.aa 22e7),(172,.aa 26e7),(213,5 339),(214,5 346),(215,5 353)]
def ct:D (I×al×D (I×I)):=[(38,true,[(166,35)]),(51,true,[(166,35)]),(63,true,[(166,35)]),(75,true,[(166,35)]),(373,false,[(166,370)]),(586,false,[(166,499),(55,506),(253,520),(177,527),(250,534),(105,541),(128,555),(257,562),(256,569),(255,576)]),(677,false,[(166,604),(55,611),(177,625),(246,632),(247,639),(253,646),(257,653),(256,660),(255,667)]),(726,false,[(166,695)]),(754,false,[(166,744),(242,751)]),(789,false,[(166,772),(242,779),(148,786)]),(852,false,[(166,807),(258,842),(254,849)]),(873,false,[(166,870)]),(894,false,[(166,891)]),(922,false,[(166,912)]),(957,false,[(166,940),(205,947)]),(1110,false,[(166,975),(205,982),(141,989),(151,1004),(204,1011),(209,1018),(54,1032),(211,1039),(210,1046),(225,1081),(222,1095),(244,1107)]),(1188,false,[(166,1129),(206,1136),(193,1157)]),(1293,false,[(71,1206),(234,1213),(202,1220),(243,1227),(163,1234),(235,1241),(238,1248),(248,1255),(236,1262),(51,1269),(237,1276),(169,1283),(259,1290),(166,975),(205,982),(141,989),(151,1004),(204,1011),(209,1018),(54,1032),(211,1039),(210,1046),(225,1081),(222,1095),(244,1107)]),(1319,false,[(166,1309)])]
def ft:D (I×Fn):=[(1018,f1018),(1206,f1206),(1262,f1262),(1255,f1255),(1248,f1248),(527,f527),(459,ac5),(534,f534),(541,f541),(447,ac3),(452,ac4),(105,acT),(1269,f1269),(1283,f1283),(1290,f1290),(625,f625),(632,f632),(639,f639),(646,f646),(653,f653),(660,f660),(667,f667),(506,f506),(520,f520),(562,f562),(569,f569),(576,f576),(611,f611),(1241,f1241),(1234,f1234),(1276,f1276),(1095,f1095),(1220,f1220),(1227,f1227),(786,f786),(779,f779),(751,f751),(471,ac7),(989,f989),(1046,f1046),(1039,f1039),(1213,f1213),(1011,f1011),(1136,f1136),(982,f982),(947,f947),(1448,f1448),(1406,f1406),(1337,ada),(1413,f1413),(1420,Qj),(1427,f1427),(1434,f1434),(1441,f1441),(1455,Qk),(1004,Kd),(84,f84),(91,f91),(391,ac0),(384,acZ),(478,ac8),(842,f842),(849,f849),(1107,f1107),(1157,f1157),(440,Qh),(940,f940),(912,f912),(433,ac2),(398,ac1),(140,acU),(325,acV),(332,acW),(339,acX),(353,acY),(466,ac6),(1330,ac9),(1344,adb),(1351,f1351),(1358,f1358),(1363,f1363),(1370,f1370),(1377,f1377),(1384,Qi),(1389,f1389),(1396,vc),(1401,f1401),(1462,f1462),(1467,qy),(35,Ql),(370,f370),(499,f499),(555,f555),(604,f604),(695,f695),(744,f744),(772,f772),(807,f807),(870,f870),(891,f891),(975,f975),(1032,f1032),(1081,f1081),(1129,f1129),(1309,f1309)]
def tx:D (I×5e6):=[(406,[(0 40,.X [12e9,10e8,0e7]),(0 41,.X [10e9,0 8,0e7]),(0 44,.X [12e9,1e3,1e3]),(0 45,.X [12e9,1e3,0e7]),(0 46,.X [12e9,1e8,1e3]),(0 47,.X [12e9,1e8,0e7]),(0 48,.X [10e9,1e3,1e3]),(0 49,.X [10e9,1e3,0e7]),(0 50,.X [10e9,1e8,1e3]),(0 51,.X [10e9,1e8,0e7]),(0 52,.X [10e9,10e8,1e3]),(0 53,.X [10e9,10e8,0e7])]),(419,[(0 54,.X [12e9,10e8]),(0 55,.X [10e9,0 8]),(0 58,.X [12e9,1e3]),(0 59,.X [12e9,1e8]),(0 60,.X [10e9,1e3]),(0 61,.X [10e9,1e8]),(0 62,.X [10e9,10e8])])]
def nE:D (I×D I):=[(373,[166]),(586,[31,55,105,128,166,177,250,253,255,256,257]),(677,[55,166,177,246,247,253,255,256,257]),(726,[166,246,247]),(754,[166,242]),(789,[148,166,242]),(852,[126,166,254,258]),(873,[166]),(894,[166]),(922,[166]),(957,[166,205]),(1110,[49,54,71,141,151,166,202,204,205,209,210,211,217,218,219,220,222,225,244]),(1188,[166,193,206]),(1293,[49,51,54,71,141,151,163,166,169,202,204,205,209,210,211,217,218,219,220,222,225,234,235,236,237,238,243,244,248,259]),(1319,[166])]
def Ke:D I:=[31,38,39,40,42,58,60,66,72,105,112,113,114,115,116,117,119,126,132,141,155,161,162,167,168,169,170,181,182,183,184,186,187,189,190,191,192,195,196,197,199,200,201,229,231]
inductive oM where
 |fA (l:D V)
 |j6 (i:I)
inductive It where
 |ej (s:oM)
 |gL (s:oM)
 |aR
 |dS (n:I)
inductive Tk where
 |x (e:apw)
 |t (e:apw)
 |ss (l:D S)
 |s (s:S)
 |aX (f:V) (as:D V)
 |gj (tg:Tg) (it:It) (k:I) (b:D S)
 |mt (e:apw) (tg:Tg) (j7:D apw) (it:It) (k:I) (j:I)
set_option genCtorIdx true in
inductive FO' where
 |next
 |bk (v:V)
set_option genCtorIdx true in
inductive A where
 |v (v:V)
 |b (b:al)
 |f (f:FO')
set_option genCtorIdx true in
inductive fj where
 |Y (a:A) (O:D aps) (T:D (I×V))
 |a8 (i:I) (O:D aps) (T:D (I×V))
inductive cq where
 |b (x:al)
 |v (x:V)
 |m (x:V)
 |ed (q:Tk->al) (r:Tk->D aps->D (I×V)->fj)
 |cu (q:Tk->al) (r:Tk->D aps->D (I×V)->fj)
 |q (x:al)
 |vs (l:D V)
 |by(l:D be)
 |n (k:I)
abbrev Ob:=Prop
structure MS where
 O:D aps
 T:D (I×V)
 bG:D cq:=[]
set_option genCtorIdx true in
inductive R (α:Type)where
 |aT (a:α) (F:MS) (ob:D Ob)
 |a8 (i:I) (F:MS) (ob:D Ob)
 |no (why:I)
def fj.mY(o:fj)(bG:2e1)(ob:D Ob):2e9:=match o with
 | .Y a O T=> 20 a O T bG ob
 | .a8 i O T=> .a8 i (62 bG) ob
def V.mk1:V->V
 | .y i _=> 14e8
 | .bp b _=> .bp b true
 |v=>v
def R.Y{α:Type}(a:α)(F:MS):3e3:= 124 a F
def R.ci{α:Type}(o:D Ob)(r:3e3):3e3:=match r with
 | .aT a F p=> .aT a F (o++p)
 | .a8 i F p=> .a8 i F (o++p)
 | .no w=> 18e9
def R.aF{α β:Type}(r:3e3)(f:α->MS->R β):R β:=match r with
 | .aT a F o=>(f a F).ci o
 | .a8 i F o=> .a8 i F o
 | .no w=> 18e9
def R.oN{α:Type}(r:3e3)(f:I->MS->3e3):3e3:=match r with
 | .a8 i F o=>(f i F).ci o
 |r=>r
def gN{α β:Type}(o:ar β)(w:I)(f:β->3e3):3e3:=match o with
 |G a=>f a
 |L=> 18e9
def gB{α:Type}(b:al)(w:I)(r:3e3):3e3:=match b with
 |true=>r
 |false=> 18e9
def g0{α β:Type}(l:D β)(w:I)(r:3e3):3e3:=match l with
 | []=>r
 |_::_=> 18e9
def g1{α β:Type}(l:D β)(w:I)(f:β->3e3):3e3:=match l with
 | []=> 18e9
 |a::l=>g0 l w (f a)
def gC{α β:Type}(l:D β)(w:I)(f:β->D β->3e3):3e3:=match l with
 | []=> 18e9
 |a::l=>f a l
def gA{α:Type}(a:A)(w:I)(f:V->3e3):3e3:=match a with
 | .f o=>(match o with
  | .bk v=>f v
  | .bA=>f 0e6)
 |_=> 18e9
def gX{α:Type}(a:A)(w:I)(r:3e3):3e3:=match a with
 | .f o=>(match o with
  | .bA=>r
  | .bk _=> 18e9)
 |_=> 18e9
def rK(a:A)(F:MS)(k:2e9):2e9:=match a with
 | .f o=>(match o with
  | .bA=>k
  | .bk v=> 7 (105 v))
 | .v v=> 7 (.v v)
 | .b b=> 7 (.b b)
def pz(u:af):al:=I.bY u.cf 0
def V.i?(v:V):ar (K×al):=match v with
 | .y i t=>G (i,t)
 |_=>L
def V.o?(v:V):ar I:=match v with
 | .Z i=>G i
 |_=>L
def V.r?(v:V):12e4:=match v with
 | .aa u=>G u
 |_=>L
def V.y?(v:V):ar 4e9:=match v with
 | .ch u=>G u
 |_=>L
def V.t?(v:V):37e2:=match v with
 | .X u=>G u
 |_=>L
def V.l?(v:V):ar (0e0×al):=match v with
 | .ad u t=>G (u,t)
 |_=>L
def ty(v:V):al:=v.r?.fN pz
def gI{α:Type}(v:V)(w:I)(f:K->al->3e3):3e3:=match v with
 | .y i t=>f i t
 |_=> 18e9
def gO{α:Type}(v:V)(w:I)(f:I->3e3):3e3:=match v with
 | .Z i=>f i
 |_=> 18e9
def vd{β:Type}(l:2e1)(d:β)(f:cq->2e1->β):β:=match l with
 | []=>d
 |q::o=>f q o
def Qm{β:Type}(l:2e1)(d:β)(f:al->2e1->β):β:=vd l d λq o=>match q with
 | .b x=>f x o
 |_=>d
def Qn{β:Type}(l:2e1)(d:β)(f:al->2e1->β):β:=vd l d λq o=>match q with
 | .q x=>f x o
 |_=>d
def Qo{β:Type}(l:2e1)(d:β)(f g:V->2e1->β):β:=vd l d λq o=>match q with
 | .v x=>f x o
 | .m x=>g x o
 |_=>d
def Kf{β:Type}(l:2e1)(d:β)(f:4e9->2e1->β):β:=vd l d λq o=>match q with
 | .by x=>f x o
 |_=>d
def pA(b t:al)(F:MS):R al:=cC t (Qm F.bG (7 b) λx o=> 20 x F.O F.T o [b=x]) (7 b)
def lk{α:Type}:34e6->I->29e6
 | [],_=>L
 |p::l,n=>match I.bY p.1 n with
  |true=>37e7
  |false=>lk l n
def fv{α:Type}:34e6->I->α->34e6
 | [],n,v=>[(n,v)]
 |p::l,n,v=>match I.bY p.1 n with
  |true=>(p.1,v)::l
  |false=>p::fv l n v
def mu:1e0->I->aps->1e0
 | [],_,_=>[]
 |o::l,n,x=>match n with
  |0=>x::l
  |n+1=>o::mu l n x
def MS.fv(F:MS)(n:I)(v:V):MS:=⟨F.O,Internal.fv F.T n v,F.bG⟩
def MS.cN(F:MS)(i:I)(o:aps):MS:=⟨mu F.O i o,F.T,F.bG⟩
def MS.jn(F:MS)(o:aps):3e2:= .Y (.Z F.O.U) ⟨F.O++[o],F.T,F.bG⟩
def gu(n:I)(t:al)(F:MS):26e1:=match t with
 |true=> .aT () F (286 n)
 |false=>match I.g4 n 16777216 with
  |true=> 40e5
  |false=> .no 5
def MS.mkR(F:MS)(fz:al)(l:0e0)(t:al):3e2:=match fz with
 |true=> 7 (.ad l t)
 |false=>F.jn (.az l t)
def MS.ka(F:MS)(fz:al)(l:0e0)(t:al):3e2:=(gu l.U t F).aF λs F=>F.mkR fz l t
def MS.dM(F:MS)(i:I):ar aps:=22e1
def ll(O:1e0):V->34e0
 | .aa u=>cC (pz u) (G (false,false)) L
 | .bp b t=>G (b,t)
 | .y i t=>G (decide (i≠0),t)
 | .ag _=>L
 | .ch b=>G (!b.jL,true)
 | .X _=>L
 | .ad l t=>G (!l.jL,t)
 | .ei _=>L
 | .Z _=>L
def aps.li(o:aps):37e2:=match o with
 | .az l _=>G l
 |_=>L
def aps.sq(o:aps):37e2:=match o with
 | .az l _=>G l
 | .au l=>G l.er
 |_=>L
def aps.di(o:aps):ar 5e6:=match o with
 | .bw l=>G l
 |_=>L
def xn(os:1e0)(v:V):37e2:=(v.l?.aj (·.1)).or (v.o?.cr λi=>os[i]?.cr aps.li)
def h8(f:V->ar ck):0e0->ar (D ck)
 | []=>G []
 |v::l=>(f v).cr λd=>(h8 f l).aj (d:: ·)
def eN:I->1e0->V->ar ck
 |0,_,_=>L
 |n+1,os,v=>match v with
  | .aa u=>cC (pz u) (G .L) L
  | .bp b _=>G (.bp b)
  | .y i _=>G (.y i)
  | .ag s=>cC (ck.rL s) (G (.ag s)) L
  | .ch _=>L
  | .ei _=>L
  | .X l=>(111 n os l).aj .qz
  | .ad l _=>(111 n os l).aj .az
  | .Z i=>(os[i]?.cr aps.sq).cr λl=>(111 n os l).aj .az
def qA:I->1e0->V->al
 |0,_,_=>true
 |n+1,os,v=>match v with
  | .bp _ t=>t
  | .y _ t=>t
  | .X l=>l.fN (qA n os)
  | .ad l t=>t||l.fN (qA n os)
  | .Z i=>match os[i]? with
   |G (.az l t)=>t||l.fN (qA n os)
   |G _=>true
   |L=>false
  |_=>false
def eq1(a b:V):ar al:=(a.r?.cr λu=>b.r?.cr λw=>cC (pz u&&pz w) (G true) L).or (a.y?.cr λx=>b.y?.aj λapp=>274 x app)
def eqB:0e0->0e0->ar al
 | [],m=>(match m with
  | []=>G true
  |_::_=>L)
 |a::l,m=>(match m with
  | []=>L
  |b::m=>(eq1 a b).cr λc=>(eqB l m).aj λd=>c&&d)
def pB(os:1e0)(a b:V):34e0:=(eN 12 os a).cr λx=>(eN 12 os b).aj λapp=>(ck.eqv x app,qA 12 os a||qA 12 os b)
def Qp(os:1e0)(a b:V):34e0:=a.o?.cr λi=>b.o?.cr λj=>141 i j L ((os[i]?.cr aps.li).cr λl=>(os[j]?.cr aps.li).cr λm=>(eqB l m).aj λc=>(c,true))
def vEq(os:1e0)(a b:V):34e0:=(pB os a b).or (Qp os a b)
def mZ:V->V->al
 | .y i _,.y j _=>274 i j
 | .ag x,.ag app=>274 x app
 |_,_=>false
def lkV:5e6->V->9e5
 | [],_=>L
 |p::l,k=>match mZ p.1 k with
  |true=>37e7
  |false=>lkV l k
def nH:V->al
 | .y _ _=>true
 |_=>false
def rM:V->al
 | .ag _=>true
 |_=>false
def nI(l:5e6)(k:V):al:=match k with
 | .y _ _=>l.dJ λp=>nH p.1
 | .ag _=>l.dJ λp=>rM p.1
 |_=>false
def qB(l:5e6)(k:V):ar 9e5:=match nI l k with
 |true=>G (lkV l k)
 |false=>L
def iS:5e6->V->V->5e6
 | [],k,v=>[(k,v)]
 |p::l,k,v=>match mZ p.1 k with
  |true=>(p.1,v)::l
  |false=>p::iS l k v
def dN{α:Type}(l:8e4)(n:K):8e4:=(285 l).xo
def xp(i:K)(n:I):I:=kL n i
def ve(lo:8e5)(n:I):I:=match lo with
 |L=>0
 |G i=>xp i n
def xq(s:8e5)(n:I):I:=match s with
 |L=>n
 |G i=>xp i n
def bE{α:Type}(l:8e4)(lo s:8e5):8e4:=(l.fh (ve lo l.U)).fG (xq s l.U-ve lo l.U)
def bW{α:Type}(l:8e4)(lo s:8e5)(m:8e4):8e4:=l.fG (ve lo l.U)++m++l.fh (jo (ve lo l.U) (xq s l.U))
def oP(b t:al)(F:MS):26e1:=match t with
 |true=> .aT () F [b=true]
 |false=>match b with
  |true=> 40e5
  |false=> .no 7
def jM(n:K):al:=bK (-9223372036854775808<=n)&&bK (n<9223372036854775808)
def xr(b:4e9)(n:K):al:=!b.jL&&bK (-1048576<=n)&&bK (n<=1048576)&&I.g4 b.U 16
def a9(op:rI)(a b:K):al:=match op with
 | .f4=>decide (a.tz<2^64)||bK (b.tz<2^64)
 | .ce=>decide (b≠0)&&bK (b.tz<2^64)
 | .bo=>decide (b≠0)
 | .kK=>335 0 b&&bK (b<=1000)&&bK (a.tz<2^64)
 | .py=>335 0 b&&bK (b<=1000000)&&bK (a.tz<2^64)
 | .xm=>335 0 b
 |_=>true
def Qq(op:rI)(a b:K)(t:al)(F:MS):26e1:=match op with
 | .dw=> 40e5
 | .jm=> 40e5
 | .xk=> 40e5
 | .BitOr=> 40e5
 |_=>match t with
  |true=> .aT () F [a9 op a b=true]
  |false=>match a9 op a b with
   |true=> 40e5
   |false=> .no 6
def binI(op:rI)(a:K)(b:K):8e5:=match op with
 | .dw=>G (a+b)
 | .jm=>G (a-b)
 | .f4=>G (a*b)
 | .ce=>G (a.aL b)
 | .bo=>G (a.ah b)
 | .kK=>G (a^b.aJ)
 | .py=>G (a*2^b.aJ)
 | .xm=>G (a.aL (2^b.aJ))
 | .xk=>G (Builtin.i7 a b)
 | .BitOr=>G (Builtin.Kg a b)
 |_=>L
def Kh(fz:al)(op:rI)(a b:V)(F:MS):3e2:=gB (304 .dw) 13 (gN (xn F.O a) 13 λl=>gN (xn F.O b) 13 λm=>222 (l++m) true)
def Ki(fz:al)(op:rI)(a b:V)(F:MS):3e2:=match a with
 | .y i t=>gI b 13 λj u=>gN (binI op i j) 10 λk=>(Qq op i j (t||u) F).aF λs F=> 7 (.y k (t||u))
 | .ch x=>gB (304 .f4) 11 (gI b 13 λn s=>(oP (xr x n) true F).aF λs F=> 7 (.ch (dN x n)))
 | .ad l t=>match op with
  | .f4=>gI b 13 λn u=>(oP (jM n) (t||u) F).aF λs F=>222 (dN l n) (t||u)
  |op=>Kh fz op (.ad l t) b F
 |a=>Kh fz op a b F
def Qr(a:I):ar 5e6:=lk tx a
def lP:0e0->ar (D K)
 | []=>G []
 | .y i _::l=>(lP l).aj (i:: ·)
 |_::_=>L
def inI(a:V)(l:D K):34e0:=a.i?.aj λp=>(l.fN (· ==p.1),p.2)
def vf(u:af):ar 5e6:=match u with
 | .N d=>Qr d
 |_=>L
def AT(F:MS)(v:V):ar 5e6:=(v.r?.cr vf).or (v.o?.cr λi=>(18e7).cr aps.di)
def xt(a b:V)(F:MS):34e0:=(b.t?.cr λl=>(lP l).cr (inI a)).or ((AT F b).cr λl=>(qB l a).aj λr=>(r.iq,false))
def xu(x:34e0):34e0:=x.aj λp=>(!p.1,p.2)
def i2(f:K->K->al)(a b:V):34e0:=a.i?.cr λp=>b.i?.aj λq=>(f p.1 q.1,p.2||q.2)
def AU(b a:V)(c:al):34e0:=cC (ty b) (G (ty a !=c,false)) L
def lQ(op:jl)(a b:V)(F:MS):34e0:=match op with
 | .Eq=>vEq F.O a b
 | .gK=>xu (pB F.O a b)
 | .Is=>AU b a false
 | .oJ=>AU b a true
 | .In=>xt a b F
 | .AS=>xu (xt a b F)
 | .Lt=>i2 (λi j=>decide (i<j)) a b
 | .lj=>i2 (λi j=>335 i j) a b
 | .Gt=>i2 (λi j=>decide (j<i)) a b
 | .oK=>i2 (λi j=>335 j i) a b
def xw(op:jl)(a b:V)(F:MS):3e2:=Qn F.bG (gN (lQ op a b F) 95 λp=> 7 (.bp p.1 p.2)) λc o=> 20 (.bp c false) F.O F.T o [∃t,lQ op a b F=G (c,t)]
def tA(x:9e5)(t:al)(F:MS):3e2:=cC t (Qo F.bG (gN x 21 λv=> 21e8) (λapp o=> 20 app F.O F.T o [x=G app]) λapp o=> 20 app F.O F.T o [x.aj V.mk1=G app]) (gN x 20 λv=> 21e8)
def dq(l:0e0)(i:K):9e5:=match i with
 | .cg k=>l[k]?
 | .rN k=>match I.g4 (k+1) l.U with
  |true=>l[l.U-(k+1)]?
  |false=>L
def itemO(o:aps)(i:V)(F:MS):3e2:=match o with
 | .az l u=>gI i 23 λk t=>tA (dq l k) (t||u) F
 | .au l=>gI i 24 λk s=>gB (decide (k= -1)) 24 (tA l.pC false F)
 | .bw l=>gN (qB l i) 28 λr=>tA r false F
 |_=> .no 25
def xx(a i:V)(F:MS):3e2:=match a with
 | .X l=>gI i 22 λk t=>tA (dq l k) t F
 | .ad l u=>gI i 22 λk t=>tA (dq l k) (t||u) F
 | .Z o=>gN (F.dM o) 25 λo=>itemO o i F
 | .aa u=>gN (vf u) 26 λl=>gN (qB l i) 29 λr=>tA r false F
 |_=> .no 27
def vg(v:9e5):ar (8e5×al):=match v with
 |L=>G (L,false)
 |G (.y i t)=>G (G i,t)
 |_=>L
def AV(lo s:9e5):ar (8e5×8e5×al):=match vg lo with
 |G (a,t)=>(match vg s with
  |G (b,u)=>G (a,b,t||u)
  |L=>L)
 |L=>L
def gS{α:Type}(lo s:9e5)(w:I)(f:8e5->8e5->al->3e3):3e3:=gN (AV lo s) w λp=>f p.1 p.2.1 p.2.2
def sliceO(fz:al)(o:aps)(lo s:9e5)(F:MS):3e2:=match o with
 | .az l t=>gS lo s 31 λx app u=>222 (176 l) (t||u)
 | .au l=>gS lo s 32 λx app h=>cC fz (7 (6 (176 l.er))) (F.jn (.au (176 l.er).er))
 | .eF b=>gS lo s 33 λx app h=>Kf F.bG (7 (.ei (176 b))) λz o=> 20 (.ei z) F.O F.T o [176 b=z]
 |_=> .no 34
def tB(fz:al)(a:V)(lo s:9e5)(F:MS):3e2:=match a with
 | .ch b=>gS lo s 30 λx app h=> 7 (.ch (176 b))
 | .ad l t=>gS lo s 30 λx app u=>222 (176 l) (t||u)
 | .Z o=>gN (F.dM o) 34 λo=>sliceO fz o lo s F
 |_=> .no 35
def bB(b:be):V:= 2 b.aJ
def aps.oct(o:aps):37e2:=match o with
 | .eF b=>G (b.aj bB)
 |_=>L
def aps.fl(o:aps):al:=match o with
 | .az _ t=>t
 |_=>true
def lR(a:V)(F:MS):37e2:=match a with
 | .ad l _=>G l
 | .Z o=>(F.dM o).cr aps.sq
 |_=>L
def vh(a:V)(F:MS):37e2:=match a with
 | .ch b=>G (b.aj bB)
 | .Z o=>(F.dM o).cr aps.oct
 |_=>L
def Kj(a:V)(F:MS):37e2:=match a with
 | .Z o=>((F.dM o).cr aps.di).aj λl=>l.aj (·.1)
 |_=>L
def rP(a:V)(F:MS):al:=match a with
 | .Z o=>(F.dM o).ak true aps.fl
 | .X _=>false
 | .ad _ t=>t
 |_=>true
def vi(a:K):D K->D K
 | []=>[a]
 |b::l=>if a<=b then a::b::l else b::vi a l
def xy(l:D K):D K:=l.foldr vi []
def lenO(o:aps)(F:MS):3e2:=match o with
 | .az l t=> 7 (.y l.U t)
 | .au l=> 7 (2 l.U)
 | .eF b=> 7 (2 b.U)
 |_=> .no 40
def Qs(a:V)(F:MS):3e2:=match a with
 | .ch b=> 7 (2 b.U)
 | .X l=> 7 (0 l.U)
 | .ad l t=> 7 (.y l.U t)
 | .ei b=> 7 (2 b.U)
 | .Z i=>gN 18e7 40 λo=>lenO o F
 |_=> .no 41
def AX(fz:al)(n:fS)(as:0e0)(F:MS):3e2:=
 cC (n== "len") (g1 as 46 λa=>Qs a F) <|
 cC (n== "sum") (g1 as 46 λa=>gN ((lR a F).cr lP) 42 λl=> 7 (2 l.lc)) <|
 cC (n== "max") (gC as 46 λa as=>g1 as 46 λb=>gI a 43 λi t=>gI b 43 λj u=> 7 (.y (jo i j) (t||u))) <|
 cC (n== "all") (g1 as 46 λa=>gN (lR a F) 44 λl=>g0 l 44 (7 47e0)) <|
 cC (n== "sorted") (g1 as 46 λa=>gN ((Kj a F).cr lP) 45 λl=>gB (I.jN l.U 64) 47 (gB fz 48 (7 (8 ((xy l).aj λi=> 6e5))))) <|
 .no 46
def vj(fz:al)(n:fS)(as:0e0)(F:MS):3e2:=
 cC (n== "list") (g1 as 55 λa=>(lR a F).ak (gN (vh a F) 50 λl=>gB fz 56 (7 (6 l))) λl=>222 l (rP a F)) <|
 cC (n== "tuple") (g1 as 55 λa=>gN (lR a F) 51 λl=> 7 (.X l)) <|
 cC (n== "bytes") (g1 as 55 λa=>match a with
  | .y n _=>(oP (decide (0<=n/\n<=16777216)) true F).aF λs F=> 7 (.ch (285 0))
  |a=>gN ((lR a F).cr lP) 52 λl=>(oP (l.dJ (289 (i<256))) true F).aF λs F=> 7 (.ch (264 48e2))) <|
 cC (n== "bytearray") (g1 as 55 λa=>gI a 53 λn s=>(oP (decide (0<=n/\n<=16777216)) true F).aF λs F=>F.jn (.eF (285 0))) <|
 cC (n== "int") (g1 as 55 λa=>match a with
  | .bp b t=> 7 (.y (if b then 1 else 0) t)
  |_=> .no 54) <|
 .no 55
def kb(C n:I):al:=Ke.fN (λk=>I.bY k n)&&((lk nE C).fN λl=>!l.fN λk=>I.bY k n)
def qC(F:MS)(o:V)(n:I)(v:V):26e1:=match o with
 | .Z i=>gN 18e7 60 λo=>match o with
  | .bv C d=>gB (I.g4 d.U 900&&kb C n) 59 (161 () i (113 (fv d n v)))
  |_=> .no 60
 |_=> .no 61
def putO(F:MS)(k:I)(o:aps)(i v:V):26e1:=match o with
 | .az l u=>gI i 63 λj t=>(oP (decide (0<=j/\j<l.U)) (t||u) F).aF λs F=> 161 () k (.az (l.cN j.aJ v) (t||u))
 | .bw l=>gB (nI l i) 59 (gB (I.g4 l.U 900) 59 (161 () k (.bw (iS l i v))))
 |_=> .no 63
def Kk(F:MS)(o i v:V):26e1:=match o with
 | .Z k=>gN (F.dM k) 63 λo=>putO F k o i v
 |_=> .no 64
def putSO(F:MS)(k:I)(o:aps)(lo h:9e5)(v:V):26e1:=match o with
 | .az l t=>gS lo h 65 λx app u=>match v with
  | .ad m t'=>(gu (l.U+m.U) (t||u||t') F).aF λs F=> 161 () k (.az (bW l x app m) (t||u||t'))
  |_=> .no 65
 | .eF b=>gS lo h 67 λx app s=>match v with
  | .ch m=>(gu (b.U+m.U) true F).aF λs F=> 161 () k (.eF (bW b x app m))
  | .ei m=>(gu (b.U+m.U) true F).aF λs F=> 161 () k (.eF (bW b x app m))
  |_=> .no 67
 |_=> .no 68
def xz(F:MS)(o:V)(lo s:9e5)(v:V):26e1:=match o with
 | .Z k=>gN (F.dM k) 68 λo=>putSO F k o lo s v
 |_=> .no 69
def methL(i:I)(l:0e0)(t:al)(n:I)(as:0e0)(F:MS):3e2:=
 bif I.bY n 46 then g1 as 72 λv=>(gu (l.U+1) t F).aF λs F=> 276 (.az (l++[v]) t)
 else bif I.bY n 94 then g1 as 72 λv=>gN (lR v F) 70 λm=>(gu (l++m).U (t||rP v F) F).aF λs F=> 276 (.az (l++m) (t||rP v F))
 else 251 n 50 72 (g0 as 72 (gC l.er 71 λv r=> 161 v i (.az r.er t)))
def methK(i:I)(l:0e0)(n:I)(as:0e0)(F:MS):3e2:=
 bif I.bY n 46 then g1 as 75 λv=>(gu (l.U+1) true F).aF λs F=> 276 (.au (v::l))
 else bif I.bY n 94 then g1 as 75 λv=>gN (lR v F) 73 λm=>(gu (m.er++l).U true F).aF λs F=> 276 (.au (m.er++l))
 else 251 n 50 75 (g0 as 75 (gC l 74 λv r=> 161 v i (.au r)))
def methD(i:I)(l:5e6)(v:V)(F:MS):3e2:=match v with
 | .Z j=>gN (F.dM j) 76 λo=>match o with
  | .bw m=>gB (I.g4 (l.U+m.U) 900) 80 (gB (I.bY i j).oG 80 (gB (m.dJ λp=>nI l p.1) 80 (gB (m.dJ λp=>nI m p.1) 80 (276 (.bw 46e1)))))
  |_=> .no 76
 |_=> .no 77
def methY(i:I)(b:4e9)(v:V)(F:MS):3e2:=match v with
 | .ch m=>(gu (b.U+m.U) true F).aF λs F=> 276 (.eF (b++m))
 |_=> .no 78
def xA(i:I)(o:aps)(n:I)(as:0e0)(F:MS):3e2:=match o with
 | .az l t=>methL i l t n as F
 | .au l=>methK i l n as F
 | .bw l=>251 n 75 77 (g1 as 77 λv=>methD i l v F)
 | .eF b=>251 n 94 78 (g1 as 78 λv=>methY i b v F)
 |_=> .no 79
def nJ(C:I):ar (al×D (I×I)):=lk ct C
def Kl(a:I):ar Fn:=lk ft a
def xB(C:I):al:=(nJ C).fN (·.1)
def srcOf(a:V)(F:MS):ar oM:=match a with
 | .X l=>G (.fA l)
 | .ad l _=>G (.fA l)
 | .Z i=>((18e7).cr aps.li).aj λs=> .j6 i
 |_=>L
def Qt(a:V)(F:MS):ar oM:=match a with
 | .ad l _=>G (.fA l)
 | .ei b=>G (.fA (b.aj bB))
 | .Z i=>((18e7).cr aps.li).aj λs=> .j6 i
 |_=>L
def oM.aP(F:MS):oM->37e2
 | .fA l=>G l
 | .j6 i=>(18e7).cr aps.li
def oM.at(F:MS)(s:oM)(k:I):ar 9e5:=(s.aP F).aj λl=>l[k]?
def It.at(F:MS)(s:It)(k:I):ar 9e5:=match s with
 | .ej s=>s.at F k
 | .gL s=>(s.at F k).aj λr=>r.aj λv=> .X [0 k,v]
 | .aR=>G L
 | .dS n=>G (cC (I.jN k n) (G (0 k)) L)
abbrev Ih:=Tk->MS->2e9
def cj(ih:Ih)(e:apw)(F:MS):3e2:=(ih (.x e) F).aF λa F=>match a with
 | .v v=> 21e8
 |_=> .no 90
def mw(ih:Ih)(e:apw)(F:MS):R al:=(ih (.t e) F).aF λa F=>match a with
 | .b b=> 7 b
 |_=> .no 91
def kc(ih:Ih):23e6->MS->R 0e0
 | [],F=> 7 []
 |e::l,F=>132 13e4 ((kc ih l F).aF (316 (v::vs)))
def lT(ih:Ih)(e:ar apw)(F:MS):R 9e5:=match e with
 |L=> 7 L
 |G e=>13e4 (396 2e5)
def AY(ih:Ih):D (apw×apw)->MS->R 5e6
 | [],F=> 7 []
 |p::l,F=>(86 p.1) λk F=>132 (86 p.2) ((AY ih l F).aF (316 ((k,v)::vs)))
def mx(r:3e2):2e9:=r.aF (396 (.v v))
def m0(r:26e1):2e9:=r.aF λs F=> 24e8
def xC(ih:Ih)(s:al):23e6->MS->3e2
 | [],_=> .no 92
 | [e],F=>cj ih e F
 |e::l,F=>132 13e4 (gN (ll F.O v) 93 λp=>(pA p.1 p.2 F).aF λb F=>cC (b==s) (xC ih s l F) 21e8)
def pD(ih:Ih)(s:al):23e6->MS->R al
 | [],F=> 7 s
 |e::l,F=>(mw ih e F).aF λb F=>cC (b==s) (pD ih s l F) (7 b)
def pE(ih:Ih)(a:V):D 40e2->MS->3e2
 | [],_=> .no 94
 | [p],F=>(86 p.2) λb F=>xw p.1 a b F
 |p::l,F=>(86 p.2) λb F=>gN (lQ p.1 a b F) 96 λq=>(pA q.1 q.2 F).aF λc F=>cC c (pE ih b l F) (7 30e9)
def pF(F:MS)(s:Tg)(v:V):26e1:=match s with
 | .n k=> .Y () (F.fv k v)
 | .t l=>match v with
  | .X vs=>251 vs.U l.U 97 (.Y () ((l.fw vs).iT (λF p=>F.fv p.1 p.2) F))
  |_=> .no 98
def qD(n:I):0e1->0e1
 | []=>[]
 |p::l=>match I.bY p.1 n with
  |true=>qD n l
  |false=>p::qD n l
def xD(s:Tg)(T:0e1):0e1:=match s with
 | .n k=>qD k T
 | .t l=>l.iT (λT k=>qD k T) T
def apw.g?(x:apw):ar I:=match x with
 | .g k=>G k
 |_=>L
def apw.xE(x:apw):ar (apw×23e6):=match x with
 | .aX f es=>G (f,es)
 |_=>L
def AZ(e:apw):ar (apw ⊕ apw ⊕ apw×apw):=e.xE.cr λp=>p.1.g?.cr λn=>match p.2 with
 | []=>L
 |a::es=>match es with
  | []=>141 n 44 (G (.a4 a)) (141 n 57 (G (.aE (.a4 a))) L)
  |b::es=>match es with
   | []=>141 n 70 (G (78 (a,b))) L
   |_::_=>L
def Qu(v:V):al:=match v with
 | .X l=>l.jL
 |_=>false
def tC(ih:Ih)(e:apw)(F:MS):R It:=match AZ e with
 |G (.a4 a)=>27e8 λv F=>gN (Qt v F) 100 λl=> 7 (.gL l)
 |G (.aE (.a4 a))=>27e8 λv F=>gI v 101 λn t=>(oP (decide (0<=n/\n<=16777216)) t F).aF λs F=> 7 (.dS n.aJ)
 |G (.aE (.aE (a,b)))=>27e8 λv F=>(86 b) λw F=>gB (Qu v) 102 (gN (xn F.O w) 102 λs=> 7 .aR)
 |L=>132 13e4 (gN (srcOf v F) 103 λl=> 7 (.ej l))
def h9{α:Type}(r:3e3):3e3:=match r with
 | .a8 _ _ _=> .no 149
 |r=>r
def oQ(it:It)(s:Tg):al:=match it,s with
 | .gL _,.n _=>false
 |_,_=>true
def qE(f:apq->V->MS->26e1):D apq->0e0->MS->26e1
 |t::l,v::vs,F=>(f t v F).aF λs F=>qE f l vs F
 |_,_,F=> 40e5
def jO(ih:Ih):I->apq->V->MS->26e1
 |0,_,_,_=> .no 104
 |n+1,t,v,F=>match t with
  | .n k=> .Y () (F.fv k v)
  | .a o a=>(86 o) λo F=>qC F o a v
  | .s o i=>(86 o) λo F=>(86 i) λi F=>Kk F o i v
  | .sl o lo s=>(86 o) λo F=>(lT ih lo F).aF λlo F=>(lT ih s F).aF λs F=>xz F o lo s v
  | .t l=>match v with
   | .X vs=>251 vs.U l.U 105 (qE (jO ih n) l vs F)
   |_=> .no 106
def apw.l?(x:apw):ar I:=match x with
 | .l k=>G k
 |_=>L
def apw.c?(x:apw):9e5:=match x with
 | .c k=>G k
 |_=>L
def apw.tup?(x:apw):ar 23e6:=match x with
 | .X k=>G k
 |_=>L
def apw.at?(x:apw):ar (apw×I):=match x with
 | .eY k n=>G (k,n)
 |_=>L
def S.Qv(s:S):ar apw:=match s with
 | .bk e=>e
 |_=>L
def V.s?(v:V):ar am:=match v with
 | .ag s=>G s
 |_=>L
def hand1(h:apw×ar I×D S):ar (I×al×am):=h.1.g?.cr λk=>h.2.1.cr λn=>h.2.2.pC.cr λs=>s.Qv.cr λr=>r.tup?.cr λl=>l.pC.cr λa=>a.c?.cr λv=>v.s?.cr λz=>l.mj.pC.cr λb=>b.at?.cr λp=>p.1.l?.cr λm=>
 cC (I.bY p.2 58) (G (k,I.bY n m,z)) L
def A0{α:Type}(v:V)(w:I)(f:I->3e3):3e3:=match v with
 | .aa u=>(match u with
  | .N a=>f a
  |_=> 18e9)
 |_=> 18e9
def hand(C:aI)(v:V):D (apw×ar I×D S)->MS->2e9
 | [],_=> .no 137
 |h::hs,F=>gN (hand1 h) 138 λq=>gN (lk gl q.1) 135 λu=>A0 u 135 λa=>gB (q.2.1&&(!I.bY a 38&&xB a)) 136 (141 a C (7 (306 [.ag q.2.2,v])) (hand C v hs F))
def notBi(u:af):al:=match u with
 | .bJ _=>false
 |_=>true
def Qw(v:V):al:=match v with
 | .aa u=>notBi u
 |_=>true
def Km(x:9e5)(F:MS):3e2:=gN x 20 λv=>gB (Qw v) 152 21e8
def rQ(ih:Ih)(f:V)(as:0e0)(F:MS):3e2:=(ih (.aX f as) F).aF λa F=>match a with
 | .v v=> 21e8
 |_=> .no 118
def xF(ih:Ih)(fz:al)(f:V)(as:0e0)(F:MS):3e2:=match f with
 | .aa u=>(match u with
  | .bJ n=>AX fz n as F
  | .aB n=>vj fz n as F
  |u=>rQ ih 29e8 as F)
 |f=>rQ ih f as F
def A1(n:I):ar fS:=141 n 46 (G "list.append") (141 n 94 (G "list.extend") (141 n 50 (G "list.pop") L))
def Qx(n:I):ar fS:=141 n 75 (G "dict.update") L
def Qy(n:I):ar fS:=141 n 94 (G "bytearray.extend") L
def rR(o:aps)(n:I):ar fS:=match o with
 | .az _ _=>A1 n
 | .au _=>A1 n
 | .bw _=>Qx n
 | .eF _=>Qy n
 |_=>L
def xG(C n:I):ar I:=(nJ C).cr λq=>cC q.1 L (lk q.2 n)
def Qz(o:aps)(n:I)(F:MS):3e2:=match o with
 | .bv C d=>gB (kb C n) 146 (Km (lk d n) F)
 |_=> .no 113
def Kn(ih:Ih)(fz:al)(i:I)(ob:aps)(n:I)(as:23e6)(F:MS):3e2:=match ob with
 | .bv C d=>cC (kb C n) ((Km (lk d n) F).aF λf F=>(kc ih as F).aF λas F=>xF ih fz f as F)
   (gN (xG C n) 121 λf=>gB (lk d n).QA 121 ((kc ih as F).aF λas F=>xF ih fz (5 f) (15e9::as) F))
 |ob=>gB (rR ob n).iq 119 ((kc ih as F).aF λas F=>gN 18e7 124 λs=>251 ob.cf s.cf 120 (xA i s n as F))
def tD(ih:Ih)(fz:al)(e:apw)(F:MS):3e2:=match e with
 | .d3 _=> .no 110
 | .c v=> 21e8
 | .l n=>gN (lk F.T n) 1000 λv=> 21e8
 | .eU n=>gN (lk F.T n) 1001 λv=> 21e8
 | .oF n=>gN (lk F.T n) 1002 λv=> 21e8
 | .g n=>gN (lk gl n) 112 λv=> 21e8
 | .eY e n=>13e4 λo F=>gO o 114 λi=>gN 18e7 113 λob=>Qz ob n F
 | .a2 e i=>13e4 λo F=>(86 i) λi F=>xx o i F
 | .kI e lo h=>13e4 λo F=>(lT ih lo.pC F).aF λlo F=>(lT ih h.pC F).aF λh F=>tB fz o lo h F
 | .a7 op a b=>27e8 λa F=>(86 b) λb F=>Ki fz op a b F
 | .oG e=>13e4 λv F=>gN (ll F.O v) 115 λp=> 7 (.bp (!p.1) p.2)
 | .gZ e=>13e4 λv F=>gI v 116 λi t=> 7 (.y (-i) t)
 | .lg l=>xC ih true l F
 | .i6 l=>xC ih false l F
 | .bU a o l=>27e8 λa F=>pE ih a (o.fw l) F
 | .ff c a b=>(mw ih c F).aF λc F=>cC c (cj ih a F) (cj ih b F)
 | .X l=>(kc ih l F).aF λvs F=> 7 (.X vs)
 | .ad l=>(kc ih l F).aF λvs F=>222 vs false
 | .oH k v=>(AY ih (k.fw v) F).aF λvs F=>gB (I.g4 vs.U 900&&vs.dJ (λp=>nI vs p.1)) 155 (F.jn (.bw (vs.iT 50e7 [])))
 | .iD e s it x=>(tC ih it F).aF λvs F=>gB (oQ vs s) 157 ((h9 (ih (.mt e s x vs 0 F.O.U) ⟨F.O++[2e0],xD s F.T,F.bG⟩)).aF λa bR=>gX a 117 (.Y (.Z F.O.U) ⟨bR.O,F.T,bR.bG⟩))
 | .aX f as=>(86 f) λf F=>(kc ih as F).aF λas F=>xF ih fz f as F
 | .bl o n as=>(86 o) λo F=>gO o 125 λi=>gN 18e7 123 λob=>Kn ih fz i ob n as F
 | .lam=> .no 126
def rS(ih:Ih)(e:apw)(F:MS):3e2:=match e with
 | .d3 e=>tD ih false e F
 |e=>tD ih true e F
def Ko(ih:Ih)(e:apw)(F:MS):R al:=match e with
 | .oG e=>(mw ih e F).aF λb F=> 7 (!b)
 | .lg l=>pD ih true l F
 | .i6 l=>pD ih false l F
 | .ff c a b=>(mw ih c F).aF λc F=>cC c (mw ih a F) (mw ih b F)
 |e=>132 (rS ih e F).aF (gN (ll F.O v) 127 λp=>pA p.1 p.2 F)
def xH:apw->V
 | .c v=>v
 |_=> 0e6
def Fn.jp(fn:Fn)(n:I):0e0:=(fn.ds.fh (n+fn.ds.U-fn.ps.U)).aj xH
def refO(u:af):ar I:=match u with
 | .N C=>G C
 |_=>L
def qF(b:D S):ar (I×apw):=cC b.mj.jL (b.pC.cr λs=>s.Qv.cr λr=>r.xE.cr λp=>p.1.g?.cr λk=>p.2.pC.cr λe=>cC (p.2.mj.pC.fN λz=>I.bY z.cf 21) ((19 gl).cr λv=>v.r?.cr λu=>(refO u).aj λC=>(C,e)) L) L
def Kq(ih:Ih)(e:apw)(C:I)(as:0e0)(F:MS):3e2:=gC as 155 λk as=>gC as 155 λn as=>g0 as 155
 ((h9 (cj ih e (219 [(31,k),(100,n)]))).aF λv bR=>(h9 (ih (22 C [v,0e6]) bR)).aF λs s=>gN (lk bR.T 31) 126 λk=>gN (lk bR.T 100) 126 λn=>
  .Y (.Z bR.O.U) ⟨bR.O++[113 [(31,v),(184,.Z (bR.O.U+1))]]++[.cW k n],F.T,bR.bG⟩)
def vk(n:I)(k v:V)(F:MS):3e2:=match F.dM n with
 |G (.az _ _)=>(vj true "list" [v] F).aF λw F=>match F.dM n with
  |G (.az l t)=>(xA n (.az l t) 46 [.X [k,w]] F).aF λs F=> 7 11e0
  |_=> .no 132
 |_=> .no 132
def A2(ih:Ih)(s:al)(fn:Fn)(as:0e0)(F:MS):3e2:=251 (as++39e1).U fn.ps.U 129 ((qF fn.cX).ak
 ((ih (.ss fn.cX) ⟨F.O,fn.ps.fw (as++39e1),F.bG⟩).aF λr bR=>gA r 130 λv=> .Y v ⟨bR.O,F.T,bR.bG⟩)
 λq=>gB s 160 (Kq ih q.2 q.1 as F))
def A3(ih:Ih)(a:I)(q:al×D (I×I))(as:0e0)(F:MS):3e2:=cC q.1 (g1 as 153 λv=>F.jn (.a8 a [(58,v)]))
 (gN (lk q.2 166) 154 λi=>(F.jn (.bv a [])).aF λo F=>(rQ ih (5 i) (o::as) F).aF λa F=>gB (ty a) 151 (7 o))
def QB(o:aps)(as:0e0)(F:MS):3e2:=match o with
 | .cW k w=>gO w 133 λn=>g1 as 133 λv=>vk n k v F
 |_=> .no 133
def vl(ih:Ih)(s:al)(f:V)(as:0e0)(F:MS):3e2:=match f with
 | .aa u=>A0 29e8 134 λa=>(Kl a).ak (gN (nJ a) 131 λq=>A3 ih a q as F) λfn=>A2 ih s fn as F
 | .Z i=>gN 18e7 133 λo=>QB o as F
 |_=> .no 134
def A4(o:aps)(i:I)(F:MS):2e9:=match o with
 | .a8 C _=>gB (xB C) 148 (.a8 i F [])
 |_=> .no 150
def QC{α:Type}(v:V)(w:I)(f:am->3e3):3e3:=match v with
 | .ag s=>f s
 |_=> 18e9
def QD(o:aps)(hs:D (apw×ar I×D S))(F:MS):2e9:=match o with
 | .a8 C d=>gN (lk d 58) 139 λv=>QC v 139 λw=>gB (xB C) 139 (hand C (.ag w) hs F)
 |_=> .no 141
def A5(ih:Ih)(s:S)(F:MS):2e9:=match s with
 | .bz t e=>13e4 λv F=>m0 (jO ih 3 t v F)
 | .ex e=>13e4 λx F=> 24e8
 | .bk L=> 7 (105 0e6)
 | .bk (G e)=>13e4 λv F=> 7 (105 v)
 | .bD c a b=>(mw ih c F).aF λc F=>cC c (ih (.ss a) F) (ih 12e5 F)
 | .lO c b=>(mw ih c F).aF λq F=>cC q ((ih 12e5 F).aF λr F=>rK r F (ih (.s (.lO c b)) F)) 24e8
 | .mr h i b=>(tC ih i F).aF λvs F=>gB (oQ vs h) 156 (h9 (ih (.gj h vs 0 b) F))
 | .kJ e=>13e4 λv bR=>gO v 140 λi=>gB (I.g4 F.O.U i) 150 (gN (bR.dM i) 150 λo=>A4 o i bR)
 | .AQ b hs=>(ih 12e5 F).oN λi bR=>gN (bR.dM i) 141 λo=>QD o hs (4 bR.O bR.bG)
 | .xf b f=>match ih (12e5) F with
  | .a8 _ _ _=> .no 145
  |r=>r.aF λr F=>(ih (.ss f) F).aF λq F=>gX q 142 (7 r)
 | .AR=> 24e8
def ap1{α:Type}(s:Tg)(w:I)(f:I->3e3):3e3:=match s with
 | .n m=>f m
 | .t _=> 18e9
def QE(o:aps)(x:V)(j:I)(k:MS->2e9)(F:MS):2e9:=match o with
 | .az l t=>(gu (l.U+1) t F).aF λs F=>k (F.cN j (.az (l++[x]) t))
 |_=> .no 158
def oo(ih:Ih)(a:ar Ih)(n:al)(t:Tk)(F:MS):2e9:=match t with
 | .x e=>mx (rS ih e F)
 | .t e=>(Ko ih e F).aF λb F=> 7 (.b b)
 | .s s=>A5 ih s F
 | .ss l=>match l with
  | []=> 24e8
  |s::l=>(ih (.s s) F).aF λr F=>rK r F (ih (.ss l) F)
 | .aX f as=>match a with
  |L=> .no 0
  |G a=>mx (vl a n f as F)
 | .gj h it k b=>gN 32e5 143 λo=>o.ak 24e8 λv=>(pF F h v).aF λw F=>(ih 12e5 F).aF λr F=>rK r F (ih (.gj h it (k+1) b) F)
 | .mt e h p it k j=>gN 32e5 144 λo=>o.ak 24e8 λv=>ap1 h 159 λm=>(pD ih true p (F.fv m v)).aF λq F=>cC q
  (13e4 λx F=>gN (F.dM j) 158 λo=>QE o x j (ih (.mt e h p it (k+1) j)) F) (ih (.mt e h p it (k+1) j) F)
abbrev PP:=I->Tk->1e0->0e1->fj->Prop
def tE:Ih:=λs s=> .no 0
def QF{β:Type}(l:2e1)(d:β)(f g:(Tk->al)->(Tk->1e0->0e1->fj)->2e1->β):β:=vd l d λq o=>match q with
 | .ed q r=>f q r o
 | .cu q r=>g q r o
 |_=>d
def apy(P:PP):I->I->Ih
 |0,_=>tE
 |n+1,d=>λtk F=>QF F.bG (oo (apy P n d) (d.cE L λd=>G (apy P n d)) (I.g4 3 d) tk F)
  (λq r o=>cC (q tk) ((r tk F.O F.T).mY o [P d tk F.O F.T (r tk F.O F.T)]) (oo (apy P n d) (d.cE L λd=>G (apy P n d)) (I.g4 3 d) tk F))
  (λq r o=>cC (q tk) ((r tk F.O F.T).mY o [∀O T,P d tk O T (r tk O T)]) (oo (apy P n d) (d.cE L λd=>G (apy P n d)) (I.g4 3 d) tk F))
def pG:0e0:=[.X [5e7,5e7],.X [.X [12e9],5e7],.X [.X [10e9],5e7],.X [.X [27e3],5e7],.X [.X [34e7],5e7],.X [.X [12e9,10e9],.X [10e9]]]
def A6:0e0:=[.X [29e0,1e3],.X [16e3,0e7],.X [0 124],.X [21e2]]
structure MB where
 m:I->aps
 B:D V
 e9:K
 apr:K
 aO:D be
 T0:D V
 T1:D V
 T2:D V
 c0:K
 c1:K
 c2:V
 e0:V
 e1:V
 d0:V
 d1:V
 no:D V
 nl:D V
 gv:K
 pk:K
 g:D V
def MB.tb(b:MB)(t:K):0e0:=if t=0 then b.T0 else if t=1 then b.T1 else b.T2
def MB.eZ(b:MB)(t:K)(l:0e0):MB:={b with T0:=if t=0 then l else b.T0,T1:=if t=0 then b.T1 else if t=1 then l else b.T1,T2:=if t=0 then b.T2 else if t=1 then b.T2 else l}
def MB.el(b:MB)(i:K):V:=if i=0 then b.e0 else b.e1
def MB.fB(b:MB)(i:K)(v:V):MB:={b with e0:=if i=0 then v else b.e0,e1:=if i=0 then b.e1 else v}
def MB.dl(b:MB)(i:K):V:=if i=0 then b.d0 else b.d1
def MB.fI(b:MB)(i:K)(v:V):MB:={b with d0:=if i=0 then v else b.d0,d1:=if i=0 then b.d1 else v}
def lm(t:K):K:=if t=0 then 6 else if t=1 then 4 else 7
def A7(t:K):V:=if t=0 then 0 6 else if t=1 then 10e8 else 0e6
def ee(t:K):Prop:=t=0\/t=1\/t=2
def ia(t:K):Prop:=t=0\/t=1
def LU(c n:K):Prop:=c=45/\n=1\/c=49/\n=1\/c=47/\n=2\/c=51/\n=2\/c=40/\n=4\/c=53/\n=4\/c=41/\n=8
def LS(c n q:K):Prop:=c=44/\n=1/\q=32\/c=48/\n=1/\q=64\/c=46/\n=2/\q=32\/c=50/\n=2/\q=64\/c=52/\n=4/\q=64
def ST(c n:K):Prop:=c=58/\n=1\/c=60/\n=1\/c=59/\n=2\/c=61/\n=2\/c=54/\n=4\/c=62/\n=4\/c=55/\n=8
def kd(n:K):Prop:=n=1\/n=2\/n=4\/n=8
def Kr(n:K):K:=if n=1 then 255 else if n=2 then 65535 else if n=4 then 4294967295 else 18446744073709551615
def pH(n v:K)(i:I):K:=339 ((Builtin.i7 v (Kr n)).aL (2^(8*i)))
def CP(x app:K):Prop:=x=0/\app=2\/x=2/\app=0\/x=0/\app=0\/x=1/\app=1\/x=2/\app=2
def IN(x app:K):Prop:=x=0/\app=0\/x=0/\app=2\/x=1/\app=1
def KO(app:K):K:=if app=0 then 2 else if app=2 then 1 else if app=3 then 5 else 4
def Y6(app:K):Prop:=app=0\/app=1\/app=2\/app=3\/app=4\/app=5
def Q3(q:K):Prop:=q=1\/q=2\/q=5
def hH(t:K):Prop:=t=0\/t=2
def vm(c:K):Prop:=c=17\/c=19
def fC:5e6:=[(1e3,.X [30e0,30e1])]
def hb:5e6:=[(1e3,.X [30e0,30e1]),(3e4,.X [.Z 63,.Z 64])]
def dE(S:I)(e:5e6)(fr:0e0)(k:K)(h s:0e0)(x:al)(b:MB)(aD:1e0):1e0:=
 b.m 0::b.m 1::b.m 2::b.m 3::b.m 4::b.m 5::b.m 6::b.m 7::b.m 8::b.m 9::b.m 10:: 37 b.no::b.m 12:: .bv 894 [(112,8 [.Z 24,.Z 33,.Z 26,.Z 34,.Z 28,.Z 30]),(113,8 [.Z 35,.Z 36,.Z 37]),(114,8 [.Z 41,.Z 43]),(115,8 [.Z 45,.Z 46,.Z 47,.Z 48])]::b.m 14:: .bv 852 [(186,.Z 14),(66,38e4),(112,8 [1e3,1e8,0e7,10e8,3e8,3e4]),(113,8 [1e3,0e7,1e8]),(114,8 [1e3]),(115,8 [1e8,0e7,3e4]),(116,.Z 20),(117,.Z 21),(187,.Z 16)]::b.m 16::b.m 17:: .bv 852 [(186,.Z 17),(66,38e4),(112,11e0),(113,11e0),(114,11e0),(115,8 [1e3]),(116,11e0),(117,11e0),(187,.Z 19)]::b.m 19:: 16 [b.e0,b.e1]:: 16 [b.d0,b.d1]:: .bv 1319 [(31,3e8),(196,5e7),(38,8 A6)]::b.m 23:: 175 (31,.X [.X [10e9],5e7]) (184,.Z 25):: 244 1e8:: 175 (31,.X [.X [12e9],5e7]) (184,.Z 27):: 244 1e3:: 175 (31,.X [.X [27e3],5e7]) (184,.Z 29):: 244 3e4:: 175 (31,.X [.X [34e7],5e7]) (184,.Z 31):: 244 10e8::b.m 32:: .bv 754 [(31,.X [.X [34e7],5e7]),(182,27e6),(183,.Z 32)]:: .bv 754 [(31,.X [.X [12e9,10e9],.X [10e9]]),(182,.Z 18),(183,.Z 22)]:: .bv 677 [(31,34e7),(72,10e8),(169,16e9),(119,.Z 39)]:: .bv 677 [(31,27e3),(72,0 6),(169,16e9),(119,.Z 38)]:: .bv 677 [(31,27e3),(72,0e6),(169,16e9),(119,.Z 40)]:: 37 b.T0:: 37 b.T1:: 37 b.T2:: .bv 586 [(72,1e3),(167,4e0),(168,3e4),(162,.Z 42)]::b.m 42:: .bv 586 [(72,1e8),(167,4e0),(168,3e4),(162,.Z 44)]:: .eF b.aO:: 254 [(31,10e9),(181,1e3),(60,31e2)]:: 254 [(31,10e9),(181,0e7),(60,33e7)]:: 254 [(31,12e9),(181,1e3),(60,31e3)]:: 254 [(31,27e3),(181,1e3),(60,b.c2)]:: .bv 1188 [(105,21e7),(170,0e6),(141,49e0),(161,2 b.gv),(229,2 b.pk),(199,0e7),(231,10e6)]:: .bw e:: .bv 1293 [(155,.Z 49),(105,21e7),(199,0e7),(132,.Z S),(200,.Z 53),(201,.bp x false)]::b.m 52:: 16 fr::b.m 54:: .au s::b.m 56::b.m 57::b.m 58:: .bv 957 [(126,1e3),(182,27e6),(38,6 b.B),(190,0e7),(39,30e0),(40,30e1),(196,6 [0 9]),(195,0e7),(42,(2 k)),(197,.Z 61)]::b.m 60:: 16 h::aD
def vn(e l s:I)(jE:K)(fa h:K):aps:= .bv 957 [(126,3e4),(182,.Z 18),(38,8 A6),(190,1e3),(39,.Z e),(40,.Z l),(196,6 [13e3,2 h]),(195,12e8),(42,0 jE),(197,.Z s)]
def jq:1e0:=[6e4,6e4]
inductive Sh where
 |a
 |b (kn:D (V×V)) (E:D aps)
def b1(sh:Sh)(b:MB)(k:K)(au:0e0):1e0:=match sh with
 | .a=>dE 55 fC [3e7] k [6e0] au true b []
 | .b s E=>dE 62 s [3e7] k [6e0] b.g true b (43e9::E)
def ek(sh:Sh)(b:MB)(k:K)(au:0e0)(o:aps):1e0:=match sh with
 | .a=>dE 55 fC [3e7] k [6e0] au true b [o]
 | .b s E=>dE 62 s [3e7] k [6e0] b.g true b (43e9::(E++[o]))
def vo(sh:Sh)(b:MB)(k:K)(cO au fr:0e0):1e0:=match sh with
 | .a=>dE 62 fC fr k [6e0] cO true b [43e9,2e0]
 | .b s E=>dE (63+E.U) s fr k [6e0] b.g true b (32e0::(E++[43e9,2e0]))
def hh(sh:Sh):Prop:=sh= .a\/sh= .b fC []\/sh= .b hb jq
def i8(sh:Sh)(b:MB)(k:K)(au:0e0):1e0:=match sh with
 | .a=>28 55 fC [3e7] k [6e0] au b []
 | .b s E=>28 62 s [3e7] k [6e0] b.g b (43e9::E)
def vp:aps:= .bv 922 [(189,10e8),(190,1e3),(191,12e8),(192,30e9)]
def pI(sh:Sh)(b:MB)(k:K)(cO:0e0)(fa h:K)(s:al):1e0:=match sh with
 | .a=>dE 63 [(1e3,.X [30e0,30e1]),(3e4,.X [.Z 64,.Z 65])] [3e7,.Z 67] k [6e0] cO s b [2e0,.au [],6e4,6e4,2e0,vn 64 65 69 0 fa h,vp,16 [.Z 68]]
 | .b _ []=>dE 64 [(1e3,.X [30e0,30e1]),(3e4,.X [.Z 65,.Z 66])] [3e7,.Z 68] k [6e0] b.g s b [32e0,2e0,.au [],6e4,6e4,2e0,vn 65 66 70 0 fa h,vp,16 [.Z 69]]
 | .b _ _=>dE 66 hb [3e7,.Z 67] k [6e0] b.g s b [32e0,6e4,6e4,2e0,.au [],vn 63 64 69 0 fa h,vp,16 [.Z 68]]
def mC(jE:K)(b:MB)(k:K)(au:0e0)(fa s:K):1e0:=28 62 hb [3e7,.Z 65] k [6e0] b.g b [43e9,6e4,6e4,vn 63 64 67 jE fa s,vp,16 [.Z 66]]
def Kt(sh:Sh)(b:MB)(k:K)(au:0e0):1e0:=match sh with
 | .a=>dE 55 fC [3e7] k [] au true b []
 | .b s E=>dE 62 s [3e7] k [] b.g true b (43e9::E)
def xI(sh:Sh)(b:MB)(k:K)(cO:0e0):1e0:=match sh with
 | .a=>dE 63 fC [] k [6e0] cO true b [44e3,20e1,2e0]
 | .b s E=>dE (64+E.U) s [] k [6e0] b.g true b (32e0::(E++[44e3,20e1,2e0]))
def dK(dn:K):0e1:=[(164,7e9),(9,0e6),(203,2 dn)]
def my:D S:=match Kd.cX with
 | [_,.lO _ b,_]=>b
 |_=>[]
def rT:apw:=match Kd.cX with
 | [_,.lO t _,_]=>t
 |_=> .lam
def cG(P:PP)(sh:Sh)(b:MB)(k k1:K)(bx:V)(au:0e0)(T:0e1)(o:2e1):2e9:=apy P 90 37 (22 1018 [7e9,3e7,2 k,bx]) ⟨100 b au,T,o⟩
abbrev ea(O:1e0)(T:0e1)(ca:6e1):2e9:= 92 0e6 O ca
abbrev gw(i:I)(O:1e0)(ca:6e1):2e9:= .a8 i (4 O []) ca
def fT(r:2e9):2e9:=match r with
 | .a8 i F ob=> .a8 i (4 F.O F.bG) ob
 |r=>r
def gk:4e9->K
 | []=>0
 |x::l=>25e6+256*gk l
def m3(x n b:K):K:=if 2^(n.aJ-1)<=x % 2^n.aJ then(x % 2^n.aJ-2^n.aJ) % 2^b.aJ else x % 2^n.aJ
def bT(f:I):Tk->al:=λtk=>match tk with
 | .aX (.aa (.N a)) _=>I.bY a f
 |_=>false
def rV(v:V):Tk->1e0->0e1->fj:=λs O T=> 36 v O T
def rX(w:V):Tk->1e0->0e1->fj:=λs O T=> .a8 O.U (O++[.a8 51 [(58,w)]]) T
abbrev cw(P:PP)(d f:I)(as:0e0)(v:V):Prop:=∀O T,P d (22 f as) O T (36 v O T)
abbrev jP(P:PP)(d f:I)(as:0e0)(w:V):Prop:=∀O T,P d (22 f as) O T (.a8 O.U (O++[.a8 51 [(58,w)]]) T)
def vq(P:PP)(sh:Sh)(b:MB)(k1:K)(bx:V)(au:0e0)(T:0e1)(o:2e1):2e9:=apy P 60 35 (271 [7e9,3e7,bx]) ⟨100 b au,T,o⟩
abbrev QG(v:V)(O:1e0)(T:0e1)(ca:6e1):2e9:= 92 v O ca
abbrev m4(b:MB)(k:I)(bx:V):Prop:=dq b.B (k:K)=G bx
abbrev iU(b:MB)(k:I)(q:al):Prop:=bK ((b.B.U:K)<=(k:K)+1)=q
def dy{α β:Type}{apu apx:α->β}(l:8e4)(h:l.aj apu=l.aj apx):∀a,a∈l->apu a=apx a:=D.gG.mp h
def QH{β:Type}(apu:K->K->β)(p:K×K):β:=apu p.1 p.2
def QI{β:Type}(apu:K->K->K->β)(p:K×K×K):β:=apu p.1 p.2.1 p.2.2
def QJ{β:Type}(apu:Sh->β)(s:5e6)(E:1e0):β×β:=(apu .a,apu (.b s E))
def ir{β:Type}{apu apx:K->K->β}(l:D (K×K))(h:l.aj (QH apu)=l.aj (QH apx)):∀a b,(a,b)∈l->apu a b=apx a b:=λs s=>D.gG.mp h _
def tab3{β:Type}{apu apx:K->K->K->β}(l:D (K×K×K))(h:l.aj (QI apu)=l.aj (QI apx)):∀a b c,(a,b,c)∈l->apu a b c=apx a b c:=λs s s=>D.gG.mp h _
def dX{β:Type}{apu apx:Sh->β}(h:QJ apu=QJ apx):∀sh,apu sh=apx sh:=by
 intro sh;cases sh with
 |a=>exact bC (·.1) (xJ (xJ h []) [])
 |b s E=>exact bC (·.2) (xJ (xJ h s) E)
def nK{sh:Sh}(h:15e0):sh∈ [Sh.a,.b fC [],.b hb jq]:=by
 rcases h with H|rfl|rfl
 ·exact .rp _
 ·exact .mj _ (.rp _)
 ·exact .mj _ (.mj _ (.rp _))
def ke{t:K}(h:7e3):t∈ [(0:K),1,2]:=by rcases h with H|rfl|rfl<;>decide
def mz{t:K}(h:ia t):t∈ [(0:K),1]:=by rcases h with H|rfl<;>decide
def pJ{t:K}(h:19e3):t∈ [(0:K),2]:=by rcases h with H|rfl<;>decide
def A8{t:K}(h:vm t):t∈ [(17:K),19]:=by rcases h with H|rfl<;>decide
def Y3_m{t:K}(h:t=0\/t=2\/t=3):t∈ [(0:K),2,3]:=by rcases h with H|rfl|rfl<;>decide
def QK{t:K}(h:t=1\/t=2\/t=3\/t=4):t∈ [(1:K),2,3,4]:=by rcases h with H|rfl|rfl|rfl<;>decide
def xK{x app:K}(h:CP x app):(x,app)∈ [((0:K),(2:K)),(2,0),(0,0),(1,1),(2,2)]:=by rcases h with⟨H,H⟩|⟨H,H⟩|⟨H,H⟩|⟨H,H⟩|⟨H,H⟩<;>decide
def pK{x app:K}(h:IN x app):(x,app)∈ [((0:K),(0:K)),(0,2),(1,1)]:=by rcases h with⟨H,H⟩|⟨H,H⟩|⟨H,H⟩<;>decide
def A9:D (K×K):=[(45,1),(49,1),(47,2),(51,2),(40,4),(53,4),(41,8)]
def Ku{x app:K}(h:LU x app):(x,app)∈A9:=by rcases h with⟨H,H⟩|⟨H,H⟩|⟨H,H⟩|⟨H,H⟩|⟨H,H⟩|⟨H,H⟩|⟨H,H⟩<;>decide
def Ba:D (K×K×K):=[(44,1,32),(48,1,64),(46,2,32),(50,2,64),(52,4,64)]
def QL{x app q:K}(h:LS x app q):(x,app,q)∈Ba:=by rcases h with⟨H,H,H⟩|⟨H,H,H⟩|⟨H,H,H⟩|⟨H,H,H⟩|⟨H,H,H⟩<;>decide
def QM{x app:K}(h:LU x app\/∃q,LS x app q):(x,app)∈A9++Ba.aj λp=>(p.1,p.2.1):=by
 rcases h with h|⟨q,h⟩
 ·exact D.w0 _ (Ku h)
 ·exact D.uO _ (D.ox (f:=λp:K×K×K=>(p.1,p.2.1)) (QL h))
def STl:D (K×K):=[(58,1),(60,1),(59,2),(61,2),(54,4),(62,4),(55,8)]
def Bb{x app:K}(h:ST x app):(x,app)∈STl:=by rcases h with⟨H,H⟩|⟨H,H⟩|⟨H,H⟩|⟨H,H⟩|⟨H,H⟩|⟨H,H⟩|⟨H,H⟩<;>decide
def QYl:D (K×K):=[(1,0),(1,1),(1,3),(1,4),(1,5),(2,1),(2,2),(2,3),(2,4),(2,5),(5,0),(5,1),(5,2),(5,4),(5,5)]
def QN{q app:K}(s:Q3 q)(h:Y6 app)(x:31e4≠q):(q,app)∈QYl:=by
 rcases s with H|rfl|rfl<;>rcases h with H|rfl|rfl|rfl|rfl|rfl<;>first|exact bM H x|decide
def dc(b:MB)(oc:0e0)(en:V)(au:0e0):1e0:=b.m 0:: 37 oc:: 37 b.T0:: 37 b.T1:: 37 b.T2:: .bw [(.ag Z1,10e0),(.ag Z2,8 [13e5,13e6,13e7]),(.ag Z3,.Z 6),(.ag Z4,8 [0 6,10e8,16e9]),(.ag Z5,.Z 7),(.ag Z6,.Z 9),(.ag Z7,.Z 10),(.ag Z8,2 b.gv),(.ag Z9,en),(.ag tw,33e7)]:: 16 [31e3,31e2,b.c2]:: 16 [b.e0,b.e1]::b.m 8:: 16 [b.d0,b.d1]:: 37 b.nl::b.m 11::b.m 12::b.m 13::b.m 14::b.m 15::b.m 16::b.m 17::b.m 18::b.m 19::b.m 20::b.m 21::b.m 22::b.m 23::b.m 24::b.m 25::b.m 26::b.m 27::b.m 28::b.m 29::b.m 30::b.m 31::b.m 32::b.m 33::b.m 34::b.m 35::b.m 36::b.m 37::b.m 38::b.m 39::b.m 40::b.m 41::b.m 42::b.m 43::b.m 44::b.m 45::b.m 46::b.m 47::b.m 48::b.m 49:: 43e9::[]
def ad(b:MB)(en:V)(au:0e0):1e0:=dc b 4e2 en au
def df(P:PP)(b:MB)(apr:K)(bx:V)(au:0e0)(T:0e1)(o:2e1):2e9:=apy P 90 39 (22 1448 [6e3,bx,10e6,23e1]) ⟨30e5,T,o⟩
abbrev c6(v:V)(O:1e0)(T:0e1)(ca:6e1):2e9:= 92 v O ca
def c7(r:2e9):2e9:=match r with
 | .aT a F ob=> .aT a ⟨F.O.fG 51,F.T,F.bG⟩ ob
 |r=>r
def iE(v:V)(O:1e0):Tk->1e0->0e1->fj:=λs s l=> 36 v O l
def mA(P:PP)(o1 o2:1e0)(v:V)(as:0e0)(T:0e1):Prop:=P 37 (216 as) o1 T (36 v o2 T)
def dz(k:K)(bx:V):0e1:=[(164,7e9),(207,3e7),(208,2 k),(43,bx)]
abbrev aG(b:MB):MB:={b with gv:=b.gv+1}
abbrev xL(P:PP)(sh:Sh)(b:MB)(k:K)(bx:V)(au:0e0)(O:1e0):Prop:=P 37 (22 1018 [7e9,3e7,2 k,bx]) (275 (k+1) au) 19e4 (36 0e6 O 19e4)
abbrev QO(P:PP)(sh:Sh)(b:MB)(k:K)(bx:V)(au:0e0)(i:I)(O:1e0):Prop:=P 37 (22 1018 [7e9,3e7,2 k,bx]) (275 (k+1) au) 19e4 (.a8 i O 19e4)
def rO(O:1e0):Tk->1e0->0e1->fj:=λs s l=> 36 0e6 O l
def ap2(i:I)(O:1e0):Tk->1e0->0e1->fj:=λs s l=> .a8 i O l
def rU(P:PP)(sh:Sh)(b b':MB)(k:I)(dn:K)(bx:V)(au:0e0)(S:I)(x:5e6)(h s:0e0)(aD:1e0):
  125 P 38 my ⟨i8 sh b k au,8e1,[.v bx,.ed (bT 1018) (rO (dE S x [3e7] (k+1) h s true b' aD)),1e9]⟩= 57 ⟨28 S x [3e7] (k+1) h s b' aD,dK (dn+1),[]⟩ [m4 b k bx,xL P sh b k bx au (dE S x [3e7] (k+1) h s true b' aD),iU b' k false]:=by cases sh<;>kernel_rfl
def adc(P:PP)(sh:Sh)(b b':MB)(k:I)(dn:K)(bx:V)(au:0e0)(S:I)(x:5e6)(h s:0e0)(aD:1e0):
  125 P 38 my ⟨i8 sh b k au,8e1,[.v bx,.ed (bT 1018) (rO (dE S x [3e7] (k+1) h s true b' aD)),6e7]⟩= 57 ⟨28 S x [] (k+1) h s b' aD,dK (dn+1),[]⟩ [m4 b k bx,xL P sh b k bx au (dE S x [3e7] (k+1) h s true b' aD),iU b' k true]:=by cases sh<;>kernel_rfl
def Kv(P:PP)(sh:Sh)(b b':MB)(k:I)(dn:K)(bx:V)(au:0e0)(S:I)(x:5e6)(h s:0e0)(aD:1e0):
  125 P 38 my ⟨i8 sh b k au,8e1,[.v bx,.ed (bT 1018) (rO (dE S x [] (k+1) h s true b' aD))]⟩= 57 ⟨28 S x [] (k+1) h s b' aD,dK (dn+1),[]⟩ [m4 b k bx,xL P sh b k bx au (dE S x [] (k+1) h s true b' aD)]:=by cases sh<;>kernel_rfl
def add(P:PP)(sh:Sh)(b:MB)(k:I)(dn:K)(bx:V)(au:0e0)(i:I)(O:1e0):
  fT (125 P 38 my ⟨i8 sh b k au,8e1,[.v bx,.ed (bT 1018) (ap2 i O)]⟩)= .a8 i (4 O []) [m4 b k bx,QO P sh b k bx au i O]:=by cases sh<;>kernel_rfl
def Kw(P:PP)(sh:Sh)(h:15e0)(b b':MB)(k:I)(dn:K)(bx:V)(au cO:0e0)(fa s:K):
  125 P 38 my ⟨i8 sh b k au,8e1,[.v bx,.ed (bT 1018) (rO (pI sh b' (k+1) cO fa s true))]⟩= 57 ⟨pI sh b' (k+1) cO fa s false,dK (dn+1),[]⟩ [m4 b k bx,xL P sh b k bx au (pI sh b' (k+1) cO fa s true)]:=by rcases h with H|rfl|rfl<;>kernel_rfl
def ade(P:PP)(b:MB)(k dn fa s:K):125 P 38 my ⟨mC 0 b k [] fa s,8e1,[]⟩= 57 ⟨mC 1 1e2 k [0e8] fa s,dK (dn+1),[]⟩ (286 1):=av
def adf(P:PP)(b:MB)(k dn fa s:K):125 P 38 my ⟨mC 1 b k [0e8] fa s,8e1,[]⟩= 57 ⟨mC 2 1e2 k [33e7,0e8] fa s,dK (dn+1),[]⟩ (286 2):=av
def adg(P:PP)(b:MB)(k dn fa s:K):125 P 38 my ⟨mC 2 b k [33e7,0e8] fa s,8e1,[240 84 (325 s b.e9)]⟩= 57 ⟨mC 3 1e2 k [2 (325 s b.e9)] fa s,dK (dn+1),[]⟩ [58 P 33 84 [2 (s+b.e9),17e2] (325 s b.e9),1<=16777216]:=av
def adh(P:PP)(b:MB)(k:I)(dn x fa s:K):125 P 38 my ⟨mC 3 b (k+1) [6e6] fa s,8e1,[1e9]⟩= 57 ⟨28 62 hb [3e7] (k+1) [6e0] b.g 1e2 [.au [6e6],6e4,6e4,vn 63 64 67 4 fa s,vp,2e0],dK (dn+1),[]⟩ [iU b k false]:=av
def QP(P:PP)(sh:Sh)(b:MB)(k:K)(au:0e0)(dn:K):apy P 9 38 (.t rT) ⟨i8 sh b k au,8e1,[]⟩= 124 6e7 ⟨i8 sh b k au,8e1,[]⟩:=by revert sh;show 4e3;kernel_rfl
def Bc(P:PP)(jE:K)(b:MB)(k:K)(au:0e0)(fa s dn:K):apy P 9 38 (.t rT) ⟨mC jE b k au fa s,8e1,[]⟩= 124 6e7 ⟨mC jE b k au fa s,8e1,[]⟩:=av
def Bd(P:PP)(S:I)(e:5e6)(k:K)(h s:0e0)(x:al)(b:MB)(aD:1e0)(dn:K):apy P 9 38 (.t rT) ⟨dE S e [] k h s x b aD,8e1,[]⟩= 124 1e9 ⟨dE S e [] k h s x b aD,8e1,[]⟩:=av
def qG:D S:=match Qk.cX with
 | [_,.mr _ _ b,_]=>b
 |_=>[]
def b2(b:MB):0e1:=[(98,6e3),(38,6 b.B),(141,49e0),(132,10e6)]
def jQ:D K:=[16,17,32,35,36,37,38,40,41,44,45,46,47,48,49,50,51,52,53,54,55,58,59,60,61,62,63,64,65,66,208,209,210,64520,64521,64522,64523,64524,64525,64526,64527,64528,64529]
abbrev xM(P:PP)(b:MB)(bx:V)(au:0e0)(v:V)(O:1e0):Prop:=P 39 (22 1448 [6e3,bx,10e6,49e0]) (373 1e2) (1e7++[(131,bx)]) (36 v O (1e7++[(131,bx)]))
def QQ(P:PP)(b b':MB)(oc:0e0)(au b7:0e0)(aD:0e0)(c:K)(h:c∈jQ):125 P 39 qG ⟨30e5,1e7++[(131,.X (1e5::aD))],[261 1448 0e6 (85 b' oc b7)]⟩= 57 ⟨85 b' oc b7,1e7++[(131,.X (1e5::aD)),(58,0e6)],[]⟩ [xM P b (.X (1e5::aD)) au 0e6 (85 b' oc b7)]:=by revert c h;show 3e1;kernel_rfl
def adi(P:PP)(b b':MB)(oc:0e0)(au b7:0e0)(aD:0e0)(z:am)(c:K)(h:c∈19::jQ):125 P 39 qG ⟨30e5,1e7++[(131,.X (1e5::aD))],[261 1448 7e8 (85 b' oc b7)]⟩= .aT (306 [.ag rJ,7e8]) ⟨85 b' oc b7,1e7++[(131,.X (1e5::aD)),(58,7e8)],[]⟩ [xM P b (.X (1e5::aD)) au 7e8 (85 b' oc b7)]:=by revert c h;show 3e1;kernel_rfl
def adj(P:PP)(b b':MB)(oc:0e0)(au b7:0e0)(aD:0e0)(c:K)(h:c=16\/c=17):125 P 39 qG ⟨30e5,1e7++[(131,.X (1e5::aD))],[261 1448 0e6 (dc b' oc (.X [25e3,14e5]) b7)]⟩= .aT (306 [25e3,14e5]) ⟨dc b' oc (.X [25e3,14e5]) b7,1e7++[(131,.X (1e5::aD)),(58,0e6)],[]⟩ [xM P b (.X (1e5::aD)) au 0e6 (dc b' oc (.X [25e3,14e5]) b7)]:=by
 rcases h with H|rfl<;>kernel_rfl
def adk(P:PP)(b b':MB)(oc:0e0)(au:0e0)(aD:0e0):125 P 39 qG ⟨30e5,1e7++[(131,.X (8e3::aD))],[261 1448 0e6 (85 b' oc [])]⟩= .aT (306 [28e9,5e7]) ⟨85 b' oc [],1e7++[(131,.X (8e3::aD)),(58,0e6)],[]⟩ [xM P b (.X (8e3::aD)) au 0e6 (85 b' oc [])]:=av
def adl(P:PP)(b:MB):125 P 39 qG ⟨35e6,1e7++[(131,.X [21e2])],[]⟩= 124 (306 [28e9,5e7]) ⟨118 1e2,1e7++[(131,.X [21e2])],[]⟩:=av
def xN:D K:=[40,41,44,45,46,47,48,49,50,51,52,53]
def Kx:D K:=[54,58,59]
def Ky:D K:=[55,60,61,62]
def vr(c:K):K:=if c=41 then 2 else if c<48 then 1 else 2
def iA(r:2e9):2e9:=match r with
 | .aT a F ob=> .aT a ⟨F.O.fG 1,F.T,F.bG⟩ ob
 |r=>r
def adm(P:PP)(d:I)(O:1e0)(T:0e1)(a n:K)(u:al):114 1 1344 [0e2] [.v (.y n u)]= 92 (.y n u) O [9 a 1000=true,9 a 8=true,(dq [0e7,1e3,12e9,0 2147483647,0 (-2147483648),0 255,0 (-129),2 (a.ah 1000)] 20e0)=G (.y n u)]:=av
def adn(P:PP)(d:I)(O:1e0)(T:0e1)(b:K):114 1 1351 [1e3,2 b] [6e7]= 154 [.X [29e0,0e7]] O [9 b 2=true,((b.ah 2)==0)=true]:=av
def ado(P:PP)(d:I)(O:1e0)(T:0e1)(b:K):114 1 1351 [1e3,2 b] [1e9]= 154 [.X [0 208,34e7]] O [9 b 2=true,((b.ah 2)==0)=false]:=av
def adp(P:PP)(d:I)(O:1e0)(T:0e1)(t b:K):114 1 1351 [2 t,2 b] [1e9,6e7]= 154 [.X [0 208,27e3]] O [(t==1)=false,9 b 3=true,((b.ah 3)==0)=true]:=av
def adq(P:PP)(d:I)(O:1e0)(T:0e1)(t b:K):114 1 1351 [2 t,2 b] [1e9,1e9]= 154 [.X [0 210,38 (b.aL 3) 6]] O [(t==1)=false,9 b 3=true,((b.ah 3)==0)=false,15 b 3=true,9 (b.aL 3) 6=true]:=av
def t_three(P:PP)(d:I)(O:1e0)(T:0e1)(a m:K):114 1 1358 [0e2,2 m] []= 154 [.X [5e8,2 (a.ah m)],.X [5e8,38 (a.aL m) m],.X [5e8,38 (a.aL (m^2)) 8]] O [9 a m=true,15 a m=true,9 (a.aL m) m=true,a9 .kK m 2=true,15 a (m^2)=true,9 (a.aL (m^2)) 8=true]:=av
def t_o4(P:PP)(d:I)(O:1e0)(T:0e1)(a:K):114 2 1363 [10e8,0e2] []= 154 [.X [0 63],.X [4e0,1e3]] O []:=av
def t_o5(P:PP)(d:I)(O:1e0)(T:0e1)(a n:K)(u:al):114 2 1363 [3e8,0e2] [.v (.y n u)]= 154 [.X [5e8,.y n u],.X [17e2],.X [4e0,1e3]] O [9 a 4=true,(dq [0e7,1e3,1e8,12e9] 38e1)=G (.y n u)]:=av
def t_o6(P:PP)(d:I)(O:1e0)(T:0e1)(a:K):114 2 1363 [0 6,0e2] []= 154 [.X [5e8,2 (a.ah 18)],.X [5e8,2 (((a.aL 18).ah 700)-100)],.X [5e8,38 (a.aL 12600) 7],.X [16e1]] O [9 a 18=true,15 a 18=true,9 (a.aL 18) 700=true,15 a 12600=true,9 (a.aL 12600) 7=true]:=av
def t_o7(P:PP)(d:I)(O:1e0)(T:0e1)(a:K)(r s t:V):114 2 1363 [16e9,0e2] [305 1358 [r,s,t]]= 139 [r,s,t,.X [20e8]] O [cw P (d+1) 1358 [0e2,0 18] (6 [r,s,t]),4<=16777216]:=av
def t_o8(P:PP)(d:I)(O:1e0)(T:0e1)(a:K)(r s t:V):114 2 1363 [0 8,0e2] [305 1358 [r,s,t]]= 139 [r,s,t,.X [8e6,2 21e1]] O [15 a 2=true,cw P (d+1) 1358 [2 (a.aL 2),4e1] (6 [r,s,t]),9 a 2=true,4<=16777216]:=av
def t_o9(P:PP)(d:I)(O:1e0)(T:0e1)(a:K):114 2 1363 [0 9,0e2] []= 154 [.X [48e7,2 21e1]] O [9 a 2=true]:=av
def t_ol(P:PP)(hd:d=0\/d=1)(s:c∈xN)(T:0e1)(B:0e0)(ft:al)(a:K):iA (152 P 60 38 1363 [0 d,0e2] [5e0] [.v 1e5])= 154 [.X [5e8,38 (a.aL 12) 17],.X [1e5,0e7,38 ((a.aL 12).aL 17) 3],.X [4e0,0 (vr c)]] [5e0] [9 a 12=true,(dq [0 40,0 41,0 44,0 45,0 46,0 47,0 48,0 49,0 50,0 51,0 52,0 53] 12e7)=G 1e5,15 a 12=true,9 (a.aL 12) 17=true,15 (a.aL 12) 17=true,9 ((a.aL 12).aL 17) 3=true]:=by
 revert s;generalize c=z;revert z;rcases hd with H|rfl<;>(apply D.gG.mp;kernel_rfl)
def t_os(P:PP)(hd:d=2\/d=3)(s:c∈Kx)(T:0e1)(B:0e0)(ft:al)(a n:K):iA (152 P 60 38 1363 [0 d,0e2] [5e0] [.v 1e5,228 1344 0e3])= 154 [.X [5e8,38 12e1 17],.X [5e8,0e3],.X [1e5,0e7,38 ((12e1).aL 17) 2]] [5e0] [9 a 7=true,(dq [0 54,0 55,0 58,0 59,0 60,0 61,0 62] 19e9)=G 1e5,15 a 7=true,15 12e1 34=true,cw P 37 1344 [2 ((12e1).aL 34)] 0e3,9 12e1 17=true,15 12e1 17=true,9 ((12e1).aL 17) 2=true]:=by
 revert s;generalize c=z;revert z;rcases hd with H|rfl<;>(apply D.gG.mp;kernel_rfl)
def t_ou(P:PP)(hd:d=2\/d=3)(s:c∈Ky)(T:0e1)(B:0e0)(ft:al)(a n:K)(m:K)(u:al):iA (152 P 60 38 1363 [0 d,0e2] [5e0] [.v 1e5,228 1344 0e3,.v (.y m u)])= 154 [.X [5e8,38 12e1 17],.X [21e4,.y m u],.X [1e5,0e7,38 ((12e1).aL 17) 2]] [5e0] [9 a 7=true,(dq [0 54,0 55,0 58,0 59,0 60,0 61,0 62] 19e9)=G 1e5,15 a 7=true,15 12e1 34=true,cw P 37 1344 [2 ((12e1).aL 34)] 0e3,9 12e1 3=true,(dq [0e3,2 ((9223372036854775807:K)-12e1),2 ((-9223372036854775808:K)+12e1)] ((12e1).ah 3))=G (.y m u),9 12e1 17=true,15 12e1 17=true,9 ((12e1).aL 17) 2=true]:=by
 revert s;generalize c=z;revert z;rcases hd with H|rfl<;>(apply D.gG.mp;kernel_rfl)
def t_e12_0(P:PP)(d:I)(O:1e0)(T:0e1)(a:K):114 2 1370 [0 12,0e2] [6e7]= 154 [.X [5e8,38 16e2 8],.X [38e2,39e4],.X [4e0,10e8]] O [9 a 3=true,15 a 3=true,9 16e2 8=true,(8e2==1)=true]:=av
def t_e12_1(P:PP)(d:I)(O:1e0)(T:0e1)(a:K):114 2 1370 [0 12,0e2] [1e9]= 154 [.X [5e8,38 16e2 8],.X [38e2,39e4],.X [4e0,3e4]] O [9 a 3=true,15 a 3=true,9 16e2 8=true,(8e2==1)=false]:=av
def t_e13(P:PP)(d:I)(O:1e0)(T:0e1)(a:K)(r:V):114 2 1370 [0 13,0e2] [305 1351 [r]]= 139 [.X [5e8,38 16e2 8],r,.X [0 38,39e4]] O [9 a 3=true,15 a 3=true,9 16e2 8=true,15 16e2 8=true,cw P (d+1) 1351 [39e4,2 (25e9 8)] (6 [r]),2<=16777216,3<=16777216]:=av
def t_e14(P:PP)(d:I)(O:1e0)(T:0e1)(a:K):114 2 1370 [0 14,0e2] []= 154 [.X [48e8,39e4],.X [4e0,1e3]] O [9 a 3=true,15 a 3=true]:=av
def t_e15(P:PP)(d:I)(O:1e0)(T:0e1)(a n:K)(u:al)(r:V):114 2 1370 [0 15,0e2] [305 1351 [r],.v (.y n u)]= 139 [r,.X [5e8,.y n u],.X [39e3,39e4],.X [4e0,1e3]] O [9 a 3=true,15 a 3=true,cw P (d+1) 1351 [39e4,2 16e2] (6 [r]),15 16e2 18=true,9 (25e9 18) 5=true,(dq [0e7,1e3,1e8,3e4,12e9] ((25e9 18).ah 5))=G (.y n u),4<=16777216]:=av
def t_e16(P:PP)(d:I)(O:1e0)(T:0e1)(a:K)(r:V):114 2 1370 [4e0,0e2] [305 1351 [r]]= 139 [.X [5e8,38 16e2 6],r,.X [5e8,38 (25e9 108) 5],.X [33e6,39e4]] O [9 a 3=true,15 a 3=true,9 16e2 6=true,15 16e2 6=true,cw P (d+1) 1351 [39e4,2 (25e9 6)] (6 [r]),2<=16777216,15 16e2 108=true,9 (25e9 108) 5=true,4<=16777216]:=av
def t_e17(P:PP)(d:I)(O:1e0)(T:0e1)(a x app:K)(r s t:V):114 2 1370 [4e1,0e2] [.v (.X [0 x,17e1]),305 1358 [r,s,t]]= 139 [r,s,t,.X [28e7,0 x,17e1]] O [9 a 3=true,15 a 3=true,9 a 5=true,(dq [.X [0e7,1e8],.X [1e8,0e7],.X [0e7,0e7],.X [1e3,1e3],.X [1e8,1e8]] 31e9)=G (.X [0 x,17e1]),15 a 5=true,cw P (d+1) 1358 [2 (a.aL 5),0 6] (6 [r,s,t]),4<=16777216]:=av
def t_e18(P:PP)(d:I)(O:1e0)(T:0e1)(a x app:K)(r s t:V):114 2 1370 [0 18,0e2] [.v (.X [0 x,17e1]),305 1358 [r,s,t]]= 139 [r,s,t,.X [8e7,0 x,17e1]] O [9 a 3=true,15 a 3=true,(dq [.X [0e7,0e7],.X [0e7,1e8],.X [1e3,1e3]] 8e2)=G (.X [0 x,17e1]),cw P (d+1) 1358 [2 16e2,0 6] (6 [r,s,t]),4<=16777216]:=av
def t_e19(P:PP)(d:I)(O:1e0)(T:0e1)(a:K):114 2 1370 [8e3,0e2] []= 154 [.X [48e9,2 21e1]] O [9 a 3=true,15 a 3=true,9 a 2=true]:=av
def t_do(P:PP)(T:0e1)(B:0e0)(ft:al)(x:K)(s:0e0):iA (152 P 60 39 1377 [6e6] [5e0] [6e7,261 1363 (6 s) [5e0]])= 139 s [5e0] [9 x 24=true,15 x 24=true,bK (7e6<10)=true,P 38 (22 1363 [49e6,36e9]) [5e0] [(0,6e6),(79,49e6),(76,36e9)] (36 (6 s) [5e0] [(0,6e6),(79,49e6),(76,36e9)])]:=av
def Kz(P:PP)(T:0e1)(B:0e0)(ft:al)(x:K):iA (152 P 60 39 1377 [6e6] [5e0] [1e9,6e7])= 154 [.X [16e3,38 30e7 3],.X [4e0,2 ((1:K)+(19e0 3))]] [5e0] [9 x 24=true,15 x 24=true,bK (7e6<10)=false,41e2=true,270 3=true,270 3=true]:=av
def t_d11_0(P:PP)(T:0e1)(B:0e0)(ft:al)(x:K)(n:K)(r:V):iA (152 P 60 39 1377 [6e6] [5e0] [1e9,1e9,6e7,6e7,305 1351 [r]])= 139 [r,.X [21e3,38 30e7 3]] [5e0] [9 x 24=true,15 x 24=true,bK (7e6<10)=false,41e2=false,44e4=true,270 3=true,((19e0 3)==2)=true,215 3=true,cw P 38 1351 [0e7,328 3] (6 [r]),270 3=true,2<=16777216]:=av
def QR(P:PP)(T:0e1)(B:0e0)(ft:al)(x:K)(n:K)(r:V):iA (152 P 60 39 1377 [6e6] [5e0] [1e9,1e9,6e7,1e9,228 1344 0e3])= 139 [.X [2 ((65:K)+(19e0 3)),0e3],.X [21e3,38 30e7 3]] [5e0] [9 x 24=true,15 x 24=true,bK (7e6<10)=false,41e2=false,44e4=true,270 3=true,((19e0 3)==2)=false,270 3=true,215 3=true,cw P 38 1344 [328 3] 0e3,270 3=true,2<=16777216]:=av
def t_de(P:PP)(T:0e1)(B:0e0)(ft:al)(x:K)(s:0e0):iA (152 P 60 39 1377 [6e6] [5e0] [1e9,1e9,1e9,6e7,261 1370 (6 s) [5e0]])= 139 s [5e0] [9 x 24=true,15 x 24=true,bK (7e6<10)=false,41e2=false,44e4=false,bK (7e6<20)=true,P 38 (22 1370 [49e6,36e9]) [5e0] [(0,6e6),(79,49e6),(76,36e9)] (36 (6 s) [5e0] [(0,6e6),(79,49e6),(76,36e9)])]:=av
def t_d20(P:PP)(T:0e1)(B:0e0)(ft:al)(x:K)(r:V):iA (152 P 60 39 1377 [6e6] [5e0] [1e9,1e9,1e9,1e9,6e7,305 1351 [r]])= 139 [r,.X [43e3],.X [4e0,1e3]] [5e0] [9 x 24=true,15 x 24=true,bK (7e6<10)=false,41e2=false,44e4=false,bK (7e6<20)=false,(7e6==20)=true,270 2=true,215 2=true,cw P 38 1351 [38 30e7 2,328 2] (6 [r]),3<=16777216]:=av
def t_d23(P:PP)(T:0e1)(B:0e0)(ft:al)(x:K)(n m:K):iA (152 P 60 39 1377 [6e6] [5e0] [1e9,1e9,1e9,1e9,1e9,228 1344 0e3,240 1344 m,6e7])= 139 [.X [5e8,0e3],.X [21e4,2 m],.X [4e0,3e8],.X [4e0,1e8]] [5e0] [9 x 24=true,15 x 24=true,bK (7e6<10)=false,41e2=false,44e4=false,bK (7e6<20)=false,(7e6==20)=false,cw P 38 1344 [36e9] 0e3,215 8=true,58 P 38 1344 [328 8] m,(7e6==23)=true,4<=16777216]:=av
def QS(P:PP)(T:0e1)(B:0e0)(ft:al)(x:K)(n m t:K):iA (152 P 60 39 1377 [6e6] [5e0] [1e9,1e9,1e9,1e9,1e9,228 1344 0e3,240 1344 m,1e9,.v 1e3,.v 1e1])= 139 [.X [5e8,0e3],.X [5e8,38 (11e4 8) 8],.X [4e1,1e3,1e1]] [5e0] [9 x 24=true,15 x 24=true,bK (7e6<10)=false,41e2=false,44e4=false,bK (7e6<20)=false,(7e6==20)=false,cw P 38 1344 [36e9] 0e3,215 8=true,58 P 38 1344 [328 8] m,(7e6==23)=false,270 4=true,(dq [3e8,3e8,1e3,1e8] (19e0 4))=G 1e3,215 8=true,9 (11e4 8) 8=true,215 4=true,9 (11e4 4) 2=true,(dq [0e7,1e8] ((11e4 4).ah 2))=G 1e1,3<=16777216,3<=16777216]:=av
def QT(P:PP)(T:0e1)(B:0e0)(ft:al)(x:K)(n m t:K):iA (152 P 60 39 1377 [6e6] [5e0] [1e9,1e9,1e9,1e9,1e9,228 1344 0e3,240 1344 m,1e9,.v 1e8,.v 1e1])= 139 [.X [21e4,2 m],.X [5e8,38 (11e4 8) 8],.X [4e1,1e8,1e1]] [5e0] [9 x 24=true,15 x 24=true,bK (7e6<10)=false,41e2=false,44e4=false,bK (7e6<20)=false,(7e6==20)=false,cw P 38 1344 [36e9] 0e3,215 8=true,58 P 38 1344 [328 8] m,(7e6==23)=false,270 4=true,(dq [3e8,3e8,1e3,1e8] (19e0 4))=G 1e8,215 8=true,9 (11e4 8) 8=true,215 4=true,9 (11e4 4) 2=true,(dq [0e7,1e8] ((11e4 4).ah 2))=G 1e1,3<=16777216,3<=16777216]:=av
def Be(P:PP)(T:0e1)(B:0e0)(ft:al)(x:K)(n m t:K):iA (152 P 60 39 1377 [6e6] [5e0] [1e9,1e9,1e9,1e9,1e9,228 1344 0e3,240 1344 m,1e9,.v 3e8,.v 1e1])= 139 [.X [5e8,0e3],.X [21e4,2 m],.X [5e8,38 (11e4 8) 8],.X [4e1,3e8,1e1],.X [4e0,1e8]] [5e0] [9 x 24=true,15 x 24=true,bK (7e6<10)=false,41e2=false,44e4=false,bK (7e6<20)=false,(7e6==20)=false,cw P 38 1344 [36e9] 0e3,215 8=true,58 P 38 1344 [328 8] m,(7e6==23)=false,270 4=true,(dq [3e8,3e8,1e3,1e8] (19e0 4))=G 3e8,215 8=true,9 (11e4 8) 8=true,215 4=true,9 (11e4 4) 2=true,(dq [0e7,1e8] ((11e4 4).ah 2))=G 1e1,4<=16777216,5<=16777216]:=av
universe e
section
open PySem PySem.W PyProof.Rows
set_option backward.match.sparseCases false
def ba(h:(a&&b)=true):a=true/\b=true:=48e3
def dt{c:Prop}[i:rg c]{f:c->al}(h:(if h:c then f h else false)=true):∃s,f s=true:=by
 cases i with
 |sU s=>exact⟨s,h⟩
 |isFalse s=>cases h
def kf{α:Type}(l:8e4):al:=match l with
 | []=>true
 |_::_=>false
@[elab_as_elim] def kg {α:Type} {C:D α->Prop} {l:D α} (h:kf l=true) (g:C []):C l:=by
 cases l with
 |aR=>exact g
 |aQ=>cases h
def ln{α:Type}(l:8e4)(p:α->8e4->al):al:=match l with
 | []=>false
 |a::l=>p a l
@[elab_as_elim] def lU {α:Type} {C:D α->Prop} {p} {l:D α} (h:ln l p=true) (g:∀a l,p a l=true->C (a::l)):C l:=by
 cases l with
 |aR=>cases h
 |aQ a l=>exact g a l h
def lp{α:Type}(o:29e6)(p:α->al):al:=match o with
 |L=>false
 |G a=>p a
@[elab_as_elim] def pL {α:Type} {C:ar α->Prop} {p} {o:ar α} (h:lp o p=true) (g:∀a,p a=true->C (G a)):C o:=by
 cases o with
 |L=>cases h
 |G a=>exact g a h
def vt{α:Type}(o:29e6):al:=match o with
 |L=>true
 |G _=>false
@[elab_as_elim] def xO {α:Type} {C:ar α->Prop} {o:ar α} (h:vt o=true) (g:C L):C o:=by
 cases o with
 |L=>exact g
 |G=>cases h
def rW{α:Type}(l:8e4)(p:α->al):al:=ln l λa l=>p a&&kf l
@[elab_as_elim] def tF {α:Type} {C:D α->Prop} {p} {l:D α} (h:rW l p=true) (g:∀a,p a=true->C [a]):C l:=
 lU h λa s h=>kg (C:=λl=>C (a::l)) (ba h).2 (g a (ba h).1)
def xP(E:PySem.a0):=λp=>if h:E.cf=0 then @PySem.a0.pM.ak 7e7 E h p else false
@[elab_as_elim] def Bf {E p} {C:PySem.a0->Prop} (h:xP E p=true) (g:∀a b c,p a b c=true->C (.pM a b c)):C E:=(dt h).ak λc=> @PySem.a0.pM.ak (λE=>∀c:E.cf=0,@PySem.a0.pM.ak (λs=>al) E c p=true->C E) E c (λa b c s=>g a b c) c
def QU(E:PySem.a0):=λp=>if h:E.cf=2 then @PySem.a0.Bg.ak 7e7 E h p else false
@[elab_as_elim] def eBinOp_ {E p} {C:PySem.a0->Prop} (h:QU E p=true) (g:∀a b c d,p a b c d=true->C (.Bg a b c d)):C E:=(dt h).ak λc=> @PySem.a0.Bg.ak (λE=>∀c:E.cf=2,@PySem.a0.Bg.ak (λs=>al) E c p=true->C E) E c (λa b c d s=>g a b c d) c
def Bh(E:PySem.a0):=λp=>if h:E.cf=3 then @PySem.a0.rY.ak 7e7 E h p else false
@[elab_as_elim] def KA {E p} {C:PySem.a0->Prop} (h:Bh E p=true) (g:∀a b c,p a b c=true->C (.rY a b c)):C E:=(dt h).ak λc=> @PySem.a0.rY.ak (λE=>∀c:E.cf=3,@PySem.a0.rY.ak (λs=>al) E c p=true->C E) E c (λa b c s=>g a b c) c
def KB(E:PySem.a0):=λp=>if h:E.cf=5 then @PySem.a0.vu.ak 7e7 E h p else false
@[elab_as_elim] def QV {E p} {C:PySem.a0->Prop} (h:KB E p=true) (g:∀a b c d,p a b c d=true->C (.vu a b c d)):C E:=(dt h).ak λc=> @PySem.a0.vu.ak (λE=>∀c:E.cf=5,@PySem.a0.vu.ak (λs=>al) E c p=true->C E) E c (λa b c d s=>g a b c d) c
def QW(E:PySem.a0):=λp=>if h:E.cf=6 then @PySem.a0.Bi.ak 7e7 E h p else false
@[elab_as_elim] def eDict_ {E p} {C:PySem.a0->Prop} (h:QW E p=true) (g:∀a b c,p a b c=true->C (.Bi a b c)):C E:=(dt h).ak λc=> @PySem.a0.Bi.ak (λE=>∀c:E.cf=6,@PySem.a0.Bi.ak (λs=>al) E c p=true->C E) E c (λa b c s=>g a b c) c
def Bj(E:PySem.a0):=λp=>if h:E.cf=8 then @PySem.a0.gV.ak 7e7 E h p else false
@[elab_as_elim] def adr {E p} {C:PySem.a0->Prop} (h:Bj E p=true) (g:∀a b c d,p a b c d=true->C (.gV a b c d)):C E:=(dt h).ak λc=> @PySem.a0.gV.ak (λE=>∀c:E.cf=8,@PySem.a0.gV.ak (λs=>al) E c p=true->C E) E c (λa b c d s=>g a b c d) c
def KD(E:PySem.a0):=λp=>if h:E.cf=15 then @PySem.a0.vv.ak 7e7 E h p else false
@[elab_as_elim] def QX {E p} {C:PySem.a0->Prop} (h:KD E p=true) (g:∀a b c d,p a b c d=true->C (.vv a b c d)):C E:=(dt h).ak λc=> @PySem.a0.vv.ak (λE=>∀c:E.cf=15,@PySem.a0.vv.ak (λs=>al) E c p=true->C E) E c (λa b c d s=>g a b c d) c
def xQ(E:PySem.a0):=λp=>if h:E.cf=16 then @PySem.a0.jR.ak 7e7 E h p else false
@[elab_as_elim] def KE {E p} {C:PySem.a0->Prop} (h:xQ E p=true) (g:∀a b c d,p a b c d=true->C (.jR a b c d)):C E:=(dt h).ak λc=> @PySem.a0.jR.ak (λE=>∀c:E.cf=16,@PySem.a0.jR.ak (λs=>al) E c p=true->C E) E c (λa b c d s=>g a b c d) c
def KF(E:PySem.a0):=λp=>if h:E.cf=19 then @PySem.a0.rZ.ak 7e7 E h p else false
@[elab_as_elim] def QY {E p} {C:PySem.a0->Prop} (h:KF E p=true) (g:∀a b c,p a b c=true->C (.rZ a b c)):C E:=(dt h).ak λc=> @PySem.a0.rZ.ak (λE=>∀c:E.cf=19,@PySem.a0.rZ.ak (λs=>al) E c p=true->C E) E c (λa b c s=>g a b c) c
def xR(E:PySem.a0):=λp=>if h:E.cf=20 then @PySem.a0.kM.ak 7e7 E h p else false
@[elab_as_elim] def Bk {E p} {C:PySem.a0->Prop} (h:xR E p=true) (g:∀a b c,p a b c=true->C (.kM a b c)):C E:=(dt h).ak λc=> @PySem.a0.kM.ak (λE=>∀c:E.cf=20,@PySem.a0.kM.ak (λs=>al) E c p=true->C E) E c (λa b c s=>g a b c) c
def xS(E:PySem.a0):=λp=>if h:E.cf=21 then @PySem.a0.qH.ak 7e7 E h p else false
@[elab_as_elim] def Bl {E p} {C:PySem.a0->Prop} (h:xS E p=true) (g:∀a b c,p a b c=true->C (.qH a b c)):C E:=(dt h).ak λc=> @PySem.a0.qH.ak (λE=>∀c:E.cf=21,@PySem.a0.qH.ak (λs=>al) E c p=true->C E) E c (λa b c s=>g a b c) c
def m5(E:PySem.a0):=λp=>if h:E.cf=23 then @PySem.a0.dr.ak 7e7 E h p else false
@[elab_as_elim] def oR {E p} {C:PySem.a0->Prop} (h:m5 E p=true) (g:∀a b,p a b=true->C (.dr a b)):C E:=(dt h).ak λc=> @PySem.a0.dr.ak (λE=>∀c:E.cf=23,@PySem.a0.dr.ak (λs=>al) E c p=true->C E) E c (λa b s=>g a b) c
def eList(E:PySem.a0):=λp=>if h:E.cf=24 then @PySem.a0.D.ak 7e7 E h p else false
@[elab_as_elim] def ads {E p} {C:PySem.a0->Prop} (h:eList E p=true) (g:∀a b,p a b=true->C (.D a b)):C E:=(dt h).ak λc=> @PySem.a0.D.ak (λE=>∀c:E.cf=24,@PySem.a0.D.ak (λs=>al) E c p=true->C E) E c (λa b s=>g a b) c
def tG(E:PySem.a0):=λp=>if h:E.cf=25 then @PySem.a0.kh.ak 7e7 E h p else false
@[elab_as_elim] def tH {E p} {C:PySem.a0->Prop} (h:tG E p=true) (g:∀a b c,p a b c=true->C (.kh a b c)):C E:=(dt h).ak λc=> @PySem.a0.kh.ak (λE=>∀c:E.cf=25,@PySem.a0.kh.ak (λs=>al) E c p=true->C E) E c (λa b c s=>g a b c) c
def KG(E:PySem.a0):=λp=>if h:E.cf=26 then @PySem.a0.r0.ak 7e7 E h p else false
@[elab_as_elim] def QZ {E p} {C:PySem.a0->Prop} (h:KG E p=true) (g:∀a b c d,p a b c d=true->C (.r0 a b c d)):C E:=(dt h).ak λc=> @PySem.a0.r0.ak (λE=>∀c:E.cf=26,@PySem.a0.r0.ak (λs=>al) E c p=true->C E) E c (λa b c d s=>g a b c d) c
def KH(E:cm):=λp=>if h:E.cf=3 then @cm.pN.ak 7e7 E h p else false
@[elab_as_elim] def KI {E p} {C:cm->Prop} (h:KH E p=true) (g:∀a b,p a b=true->C (.pN a b)):C E:=(dt h).ak λc=> @cm.pN.ak (λE=>∀c:E.cf=3,@cm.pN.ak (λs=>al) E c p=true->C E) E c (λa b s=>g a b) c
def Q0(E:cm):=λp=>if h:E.cf=5 then @cm.pO.ak 7e7 E h p else false
@[elab_as_elim] def adt {E p} {C:cm->Prop} (h:Q0 E p=true) (g:∀a b c,p a b c=true->C (.pO a b c)):C E:=(dt h).ak λc=> @cm.pO.ak (λE=>∀c:E.cf=5,@cm.pO.ak (λs=>al) E c p=true->C E) E c (λa b c s=>g a b c) c
def Q1(E:cm):=λp=>if h:E.cf=9 then @cm.For.ak 7e7 E h p else false
@[elab_as_elim] def adu {E p} {C:cm->Prop} (h:Q1 E p=true) (g:∀a b c d e,p a b c d e=true->C (.For a b c d e)):C E:=(dt h).ak λc=> @cm.For.ak (λE=>∀c:E.cf=9,@cm.For.ak (λs=>al) E c p=true->C E) E c (λa b c d e s=>g a b c d e) c
def Q2(E:cm):=λp=>if h:E.cf=11 then @cm.Bm.ak 7e7 E h p else false
@[elab_as_elim] def Q4 {E p} {C:cm->Prop} (h:Q2 E p=true) (g:∀a b c d,p a b c d=true->C (.Bm a b c d)):C E:=(dt h).ak λc=> @cm.Bm.ak (λE=>∀c:E.cf=11,@cm.Bm.ak (λs=>al) E c p=true->C E) E c (λa b c d s=>g a b c d) c
def Q5(E:cm):=λp=>if h:E.cf=12 then @cm.If.ak 7e7 E h p else false
@[elab_as_elim] def adv {E p} {C:cm->Prop} (h:Q5 E p=true) (g:∀a b c d,p a b c d=true->C (.If a b c d)):C E:=(dt h).ak λc=> @cm.If.ak (λE=>∀c:E.cf=12,@cm.If.ak (λs=>al) E c p=true->C E) E c (λa b c d s=>g a b c d) c
def Q6(E:cm):=λp=>if h:E.cf=16 then @cm.Bn.ak 7e7 E h p else false
@[elab_as_elim] def adw {E p} {C:cm->Prop} (h:Q6 E p=true) (g:∀a b c,p a b c=true->C (.Bn a b c)):C E:=(dt h).ak λc=> @cm.Bn.ak (λE=>∀c:E.cf=16,@cm.Bn.ak (λs=>al) E c p=true->C E) E c (λa b c s=>g a b c) c
def KJ(E:cm):=λp=>if h:E.cf=17 then @cm.Try.ak 7e7 E h p else false
@[elab_as_elim] def Q7 {E p} {C:cm->Prop} (h:KJ E p=true) (g:∀a b c d e,p a b c d e=true->C (.Try a b c d e)):C E:=(dt h).ak λc=> @cm.Try.ak (λE=>∀c:E.cf=17,@cm.Try.ak (λs=>al) E c p=true->C E) E c (λa b c d e s=>g a b c d e) c
def Q8(E:cm):=λp=>if h:E.cf=24 then @cm.a0.ak 7e7 E h p else false
@[elab_as_elim] def adx {E p} {C:cm->Prop} (h:Q8 E p=true) (g:∀a b,p a b=true->C (.a0 a b)):C E:=(dt h).ak λc=> @cm.a0.ak (λE=>∀c:E.cf=24,@cm.a0.ak (λs=>al) E c p=true->C E) E c (λa b s=>g a b) c
def Q9(E:cm):=λp=>if h:E.cf=25 then @cm.uI.ak 7e7 E h p else false
@[elab_as_elim] def ady {E p} {C:cm->Prop} (h:Q9 E p=true) (g:∀a,p a=true->C (.uI a)):C E:=(dt h).ak λc=> @cm.uI.ak (λE=>∀c:E.cf=25,@cm.uI.ak (λs=>al) E c p=true->C E) E c (λa s=>g a) c
def xc(E:apw):=λp=>if h:E.cf=0 then @apw.c.ak 7e7 E h p else false
@[elab_as_elim] def xc_ {E p} {C:apw->Prop} (h:xc E p=true) (g:∀a,p a=true->C (.c a)):C E:=(dt h).ak λc=> @apw.c.ak (λE=>∀c:E.cf=0,@apw.c.ak (λs=>al) E c p=true->C E) E c (λa s=>g a) c
def xl(E:apw):=λp=>if h:E.cf=1 then @apw.l.ak 7e7 E h p else false
@[elab_as_elim] def xl_ {E p} {C:apw->Prop} (h:xl E p=true) (g:∀a,p a=true->C (.l a)):C E:=(dt h).ak λc=> @apw.l.ak (λE=>∀c:E.cf=1,@apw.l.ak (λs=>al) E c p=true->C E) E c (λa s=>g a) c
def xg(E:apw):=λp=>if h:E.cf=4 then @apw.g.ak 7e7 E h p else false
@[elab_as_elim] def xg_ {E p} {C:apw->Prop} (h:xg E p=true) (g:∀a,p a=true->C (.g a)):C E:=(dt h).ak λc=> @apw.g.ak (λE=>∀c:E.cf=4,@apw.g.ak (λs=>al) E c p=true->C E) E c (λa s=>g a) c
def Ra(E:apw):=λp=>if h:E.cf=5 then @apw.eY.ak 7e7 E h p else false
@[elab_as_elim] def adz {E p} {C:apw->Prop} (h:Ra E p=true) (g:∀a b,p a b=true->C (.eY a b)):C E:=(dt h).ak λc=> @apw.eY.ak (λE=>∀c:E.cf=5,@apw.eY.ak (λs=>al) E c p=true->C E) E c (λa b s=>g a b) c
def Rb(E:apw):=λp=>if h:E.cf=15 then @apw.X.ak 7e7 E h p else false
@[elab_as_elim] def adA {E p} {C:apw->Prop} (h:Rb E p=true) (g:∀a,p a=true->C (.X a)):C E:=(dt h).ak λc=> @apw.X.ak (λE=>∀c:E.cf=15,@apw.X.ak (λs=>al) E c p=true->C E) E c (λa s=>g a) c
def Rc(E:apw):=λp=>if h:E.cf=18 then @apw.iD.ak 7e7 E h p else false
@[elab_as_elim] def adB {E p} {C:apw->Prop} (h:Rc E p=true) (g:∀a b c d,p a b c d=true->C (.iD a b c d)):C E:=(dt h).ak λc=> @apw.iD.ak (λE=>∀c:E.cf=18,@apw.iD.ak (λs=>al) E c p=true->C E) E c (λa b c d s=>g a b c d) c
def tn(E:Internal.apq):=λp=>if h:E.cf=0 then @Internal.apq.n.ak 7e7 E h p else false
@[elab_as_elim] def Rd {E p} {C:Internal.apq->Prop} (h:tn E p=true) (g:∀a,p a=true->C (.n a)):C E:=(dt h).ak λc=> @Internal.apq.n.ak (λE=>∀c:E.cf=0,@Internal.apq.n.ak (λs=>al) E c p=true->C E) E c (λa s=>g a) c
def tt(E:Internal.apq):=λp=>if h:E.cf=4 then @Internal.apq.t.ak 7e7 E h p else false
@[elab_as_elim] def tt_ {E p} {C:Internal.apq->Prop} (h:tt E p=true) (g:∀a,p a=true->C (.t a)):C E:=(dt h).ak λc=> @Internal.apq.t.ak (λE=>∀c:E.cf=4,@Internal.apq.t.ak (λs=>al) E c p=true->C E) E c (λa s=>g a) c
def abp(E:Internal.S):=λp=>if h:E.cf=2 then @Internal.S.bk.ak 7e7 E h p else false
@[elab_as_elim] def adC {E p} {C:Internal.S->Prop} (h:abp E p=true) (g:∀a,p a=true->C (.bk a)):C E:=(dt h).ak λc=> @Internal.S.bk.ak (λE=>∀c:E.cf=2,@Internal.S.bk.ak (λs=>al) E c p=true->C E) E c (λa s=>g a) c
def abq(E:V):=λp=>if h:E.cf=3 then @V.ag.ak 7e7 E h p else false
@[elab_as_elim] def adD {E p} {C:V->Prop} (h:abq E p=true) (g:∀a,p a=true->C (.ag a)):C E:=(dt h).ak λc=> @V.ag.ak (λE=>∀c:E.cf=3,@V.ag.ak (λs=>al) E c p=true->C E) E c (λa s=>g a) c
def Re(E:PySem.i9):=λp=>if h:E.cf=1 then @PySem.i9.bp.ak 7e7 E h p else false
@[elab_as_elim] def adE {E p} {C:PySem.i9->Prop} (h:Re E p=true) (g:∀a,p a=true->C (.bp a)):C E:=(dt h).ak λc=> @PySem.i9.bp.ak (λE=>∀c:E.cf=1,@PySem.i9.bp.ak (λs=>al) E c p=true->C E) E c (λa s=>g a) c
def Rf(E:PySem.i9):=λp=>if h:E.cf=2 then @PySem.i9.y.ak 7e7 E h p else false
@[elab_as_elim] def adF {E p} {C:PySem.i9->Prop} (h:Rf E p=true) (g:∀a,p a=true->C (.y a)):C E:=(dt h).ak λc=> @PySem.i9.y.ak (λE=>∀c:E.cf=2,@PySem.i9.y.ak (λs=>al) E c p=true->C E) E c (λa s=>g a) c
def KM(E:PySem.i9):=λp=>if h:E.cf=5 then @PySem.i9.ag.ak 7e7 E h p else false
@[elab_as_elim] def Rg {E p} {C:PySem.i9->Prop} (h:KM E p=true) (g:∀a,p a=true->C (.ag a)):C E:=(dt h).ak λc=> @PySem.i9.ag.ak (λE=>∀c:E.cf=5,@PySem.i9.ag.ak (λs=>al) E c p=true->C E) E c (λa s=>g a) c
def Rh(E:PySem.i9):=λp=>if h:E.cf=6 then @PySem.i9.iQ.ak 7e7 E h p else false
@[elab_as_elim] def adG {E p} {C:PySem.i9->Prop} (h:Rh E p=true) (g:∀a,p a=true->C (.iQ a)):C E:=(dt h).ak λc=> @PySem.i9.iQ.ak (λE=>∀c:E.cf=6,@PySem.i9.iQ.ak (λs=>al) E c p=true->C E) E c (λa s=>g a) c
universe e
section
open PySem PySem.W PyProof.Rows PySem.Calls PySem.Spec
set_option backward.match.sparseCases false
def qI:D am:=["~x", "~bits", "~narrow", "~unsigned", "~signed", "~y", "~code", "~first32", "~first64", "~many", "~I64_EXTEND8", "~I32_EXTEND8", "~EXTEND_S", "~I32_EQZ", "~I64_EQZ", "~WRAP", "~EXTEND_U", "~place_in", "~I32_CLZ", "~I64_CLZ", "~len", "~COUNTS", "~narrow_of", "~found", "~I32_ADD", "~I64_ADD", "~REST", "~I32_EQ", "~I64_EQ", "~COMPARES", "~Misused", "~kind", "~HEAP_NAMES", "~I32", "~is_ref", "~BLOCK", "~LOOP", "~IF", "~body", "~ends", "~elses", "~opened", "~at", "~instruction", "~enumerate", "~is_block", "~append", "~ELSE", "~END", "~begin", "~pop", "~octets", "~place", "~octet", "~number", "~size", "~bytes", "~range", "~why", "~Trap", "~value", "~isinstance", "~int", "~bool", "~I64", "~bits_of", "~kinds", "~values", "~all", "~does_fit", "~zip", "~more", "~most", "~greatest", "~rows", "~update", "~a", "~table", "~b", "~d", "~codes", "~sorted", "~_law_widths", "~_law_number", "~_law_three", "~_law_reference", "~to", "~elem", "~goal", "~_law_octets", "~_law_elements", "~both", "~handed", "~script", "~extend", "~_law_deed", "~first", "~sum", "~world", "~k", "~noted", "~HostFunc", "~_law_types", "~types", "~sizes", "~store", "~Sizes", "~CoreStore", "~one", "~other", "~Instance", "~CoreInstance", "~funcs", "~tables", "~memories", "~globals", "~elems", "~datas", "~list", "~items", "~far", "~Func", "~hosts", "~_law_host", "~WasmFunc", "~Table", "~address", "~Memory", "~write", "~cells", "~Cell", "~row", "~stack", "~is_signed", "~some", "~filled", "~old", "~source", "~_law_grown", "~second", "~_law_moved", "~depth", "~_law_called", "~_law_through", "~_law_accessed", "~_law_many", "~tuple", "~_law_does", "~run", "~fault", "~Exhausted", "~forward", "~_law_body", "~_law_world", "~_law_store", "~machine", "~CoreMachine", "~told", "~_law_told", "~Run", "~_law_due", "~steps", "~data", "~cell", "~self", "~Exception", "~__init__", "~page", "~pages", "~elements", "~fuel", "~least", "~bytearray", "~grown", "~REFUSED", "~want_within", "~OUTSIDE_MEMORY", "~want", "~number_of", "~octets_of", "~OUTSIDE_TABLE", "~mutable", "~instance", "~func", "~action", "~do_fit", "~module", "~exports", "~index", "~target", "~arity", "~height", "~is_loop", "~matched", "~places", "~base", "~locals", "~labels", "~Label", "~ahead", "~frames", "~is_broken", "~enter", "~done", "~step", "~is_done", "~count", "~frame", "~here", "~do", "~control", "~local", "~last", "~is_unary", "~reckon1", "~reckon2", "~is_first", "~branch", "~choose", "~branch_by_table", "~give_back", "~UNREACHABLE", "~go", "~carried", "~is_tail", "~lower", "~CALL_STACK", "~default_value", "~Frame", "~peak", "~max", "~known", "~FUEL", "~matches", "~address_in", "~element", "~memory", "~reference", "~table_of", "~UNDEFINED", "~UNINITIALIZED", "~OTHER_KIND", "~is_host", "~hosted", "~open_frame", "~kept", "~get", "~put", "~memory_of", "~LOADS", "~load", "~widened", "~STORES", "~grow", "~drop_data", "~init", "~copy", "~fill", "~drop_elem", "~many_elements", "~locals_now"]
def nm(k:I):am:=(qI[k]?).ge ⟨#[2000000+k]⟩
def adH:qI.dJ (λs=>s.cps.dJ λc=>I.g4 c 1000000)=true:=av
def ndB:D I->al:=D.pd true λa l k=>l.dJ (λb=>(I.bY a b).oG)&&k
def adI(l:D I):ndB l=true->l.dT:=D.pd (λs=> .aR) (λa l k h=> .aQ (λb m e=>by have g:=D.ib.mp (48e3).1 b m;rw[e,I.qJ]at g;cases g) (k (48e3).2)) l
def adJ:qI.dT:=D.tu.of_map (λs:am=>s.cps.f3.iT (λa c=>I.ci (I.mul a 1024) c) 0) (λa b h e=>h (by rw[e])) (adI _ av)
def r6{a b:I}(h:nm a=nm b):a=b:=by
 unfold nm at h;have p:∀k (x:am),x∈qI->x≠⟨#[2000000+k]⟩:=by
  intro k x n e;have:=D.ib.mp adH x n;rw[e]at bb;simp at bb;lia
 cases r:qI[a]? with
 |L=>
  cases s:qI[b]? with
  |L=>
   rw[r,s]at h;simp only[ar.getD_none,am.mk.fu,bP.mk.fu,D.aQ.fu]at h;lia
  |G app=>
   rw[r,s]at h;exact bM h.bi (p _ _ (D.ja s))
 |G x=>
  cases s:qI[b]? with
  |L=>
   rw[r,s]at h;exact bM h (p _ _ (D.ja r))
  |G app=>
   rw[r,s]at h;simp only[ar.getD_some]at h;subst h;show oE (D.gM.mp r) λw v=>?_;show oE (D.gM.mp s) λq m=>?_;exact(D.getElem_inj adJ).mp (v.aV m.bi)
abbrev aW:=D 9e3
def lr:I:=1468
def dU(p:9e3):11e9:=p.1::p.2
def cy(J:aW)(a:aI):Prop:=∃p∈J,a∈24e3
inductive cJ {α β:Type} (p:α->β->Prop):D α->D β->Prop
 |aR:cJ p [] []
 |aQ {a b l m}:p a b->cJ p l m->cJ p (a::l) (b::m)
@[elab_as_elim] def fnE.cE {α β:Type} {p:α->β->Prop} {m:D β} {C:∀m,cJ p [] m->Prop} (r:cJ p [] m) (aR:C [] .aR):C m r:=by cases(r);exact aR
@[elab_as_elim] def fcE.cE {α β:Type} {p:α->β->Prop} {a:α} {l:D α} {m:D β} {C:∀m,cJ p (a::l) m->Prop} (r:cJ p (a::l) m) (aQ:∀{b m} (x:p a b) (app:cJ p l m),C (b::m) (.aQ x app)):C m r:=by cases(r)with|aQ x app=>exact aQ x app
section
variable{α β:Type}{p q:α->β->Prop}{l l':D α}{m m':D β}
def cJ.f5(f:∀a b,p a b->q a b)(h:cJ p l m):cJ q l m:=by
 induction h with
 |aR=>exact .aR
 |aQ a _ ih=>exact .aQ (f _ _ a) ih
def cJ.cU(h:cJ p l m):m.U=l.U:=by
 induction h with
 |aR=>rfl
 |aQ _ _ ih=>exact bC (· +1) ih
def cJ.lV(h:cJ p l m)(g:cJ p l' m'):cJ p (l++l') (m++m'):=by
 induction h with
 |aR=>exact g
 |aQ a _ ih=>exact .aQ a ih
def cJ.rev(h:cJ p l m):cJ p l.er m.er:=by
 induction h with
 |aR=>exact .aR
 |aQ a _ ih=>rw[D.Bo,D.Bo];exact ih.lV (265 a)
def cJ.fh(h:cJ p l m):∀n:I,cJ p (l.fh n) (m.fh n):=by
 induction h with
 |aR=>exact λn=>by rw[D.drop_nil,D.drop_nil];exact .aR
 |aQ a r ih=>exact λn=>I.cE n (.aQ a r) ih
def cJ.fG(h:cJ p l m):∀n:I,cJ p (l.fG n) (m.fG n):=by
 induction h with
 |aR=>exact λn=>by rw[D.take_nil,D.take_nil];exact .aR
 |aQ a r ih=>exact λn=>I.cE n .aR λn=> .aQ a (ih n)
def cJ.cN{a:α}{b:β}(r:p a b)(h:cJ p l m):∀n:I,cJ p (l.cN n a) (m.cN n b):=by
 induction h with
 |aR=>exact λn=> .aR
 |aQ a h ih=>exact λn=>I.cE n (.aQ r h) λn=> .aQ a (ih n)
def cJ.dM{a:α}(h:cJ p l m):∀{k:I},l[k]? =11e3->∃b,m[k]? =G b/\p a b:=by
 induction h with
 |aR=>exact λe=>19e2
 |aQ r _ ih=>exact λ{k}=>match k with
  |0=>λe=>⟨_,H,11e6▸r⟩
  |_+1=>ih
@[elab_as_elim] def cJ.KN {C:D β->Prop} (h:cJ p [] m) (c:C []):C m:=by cases h;exact c
@[elab_as_elim] def cJ.KP {a:α} {C:D β->Prop} (h:cJ p (a::l) m) (c:∀b m,p a b->cJ p l m->C (b::m)):C m:=by cases h with|aQ r s=>exact c _ _ r s
universe e
inductive RV (J:aW) (h:ai):V->af->Prop
 |aa (v:af):RV J h (.aa v) v
 |bp (b t):RV J h (.bp b t) (.bp b)
 |y (i t tk):RV J h (.y i t) (.y i tk)
 |ag (s tk):RV J h (.ag s) (.ag s tk)
 |ch (b tk):b.U<=16777216->RV J h (.ch b) (.iQ ⟨b⟩ tk)
 |X (l a aP):jk h a ⟨aP⟩->l.U<=16777216->cJ (RV J h) l aP->RV J h (.X l) (.N a)
 |ad (l t a aP):h.gW a ⟨aP⟩->¬cy J a->l.U<=16777216->cJ (RV J h) l aP->RV J h (.ad l t) (.N a)
 |ei (b a):h.ao a=G ⟨.aB "bytearray",L,.qr ⟨b⟩ 0,#[]⟩->¬cy J a->b.U<=16777216->RV J h (.ei b) (.N a)
 |Z (i:I) (p:aI×D aI):J[i]? =G p->RV J h (.Z i) (.N p.1)
abbrev cx(J:aW)(h:ai):0e0->2e4->Prop:=cJ (RV J h)
section
variable{J:aW}{h:ai}{u:af}
@[elab_as_elim] def tI.cE {v} {C:∀u,RV J h (.aa v) u->Prop} (r:RV J h (.aa v) u) (aa:C v (.aa v)):C u r:=by cases(r);exact aa
@[elab_as_elim] def KQ.cE {b t} {C:∀u,RV J h (.bp b t) u->Prop} (r:RV J h (.bp b t) u) (bp:C (.bp b) (.bp ..)):C u r:=by cases(r);exact bp
@[elab_as_elim] def vw.cE {i t} {C:∀u,RV J h (.y i t) u->Prop} (r:RV J h (.y i t) u) (y:∀tk,C (.y i tk) (.y ..)):C u r:=by cases(r);exact y _
@[elab_as_elim] def Ri.cE {s} {C:∀u,RV J h (.ag s) u->Prop} (r:RV J h (.ag s) u) (ag:∀tk,C (.ag s tk) (.ag ..)):C u r:=by cases(r);exact ag _
@[elab_as_elim] def xT.cE {b} {C:∀u,RV J h (.ch b) u->Prop} (r:RV J h (.ch b) u) (ch:∀tk s,C (.iQ ⟨b⟩ tk) (.ch _ _ s)):C u r:=by cases(r)with|ch _ _ s=>exact ch _ s
@[elab_as_elim] def KR.cE {l} {C:∀u,RV J h (.X l) u->Prop} (r:RV J h (.X l) u) (X:∀a aP e x s,C (.N a) (.X l a aP e x s)):C u r:=by cases(r)with|X _ _ _ a b c=>exact X _ _ a b c
@[elab_as_elim] def Bp.cE {l t} {C:∀u,RV J h (.ad l t) u->Prop} (r:RV J h (.ad l t) u) (ad:∀a aP p x e s,C (.N a) (.ad l t a aP p x e s)):C u r:=by cases(r)with|ad _ _ _ _ a b c d=>exact ad _ _ a b c d
@[elab_as_elim] def Rj.cE {b} {C:∀u,RV J h (.ei b) u->Prop} (r:RV J h (.ei b) u) (ei:∀a e s x,C (.N a) (.ei b a e s x)):C u r:=by cases(r)with|ei _ _ a b c=>exact ei _ a b c
@[elab_as_elim] def mD.cE {i} {C:∀u,RV J h (.Z i) u->Prop} (r:RV J h (.Z i) u) (Z:∀p s,C (.N p.1) (.Z i p s)):C u r:=by cases(r)with|Z _ _ a=>exact Z _ a
universe e
def nS{α:Type}{a:α}{C:Prop}(e:L=11e3):C:=bM e nofun
def oB{α β:Type}{o:29e6}{f:α->ar β}{b:β}(e:o.cr f=G b){C:Prop}(g:∀a,o=11e3->f a=G b->C):C:=by
 cases o with
 |L=>exact 18e0
 |G a=>exact g a H e
def ap3{α β:Type}{o:29e6}{f:α->β}{b:β}(e:o.aj f=G b){C:38e5}(g:∀a,o=11e3->C (f a)):C b:=by
 cases o with
 |L=>exact 18e0
 |G a=>exact 11e6▸g a H
def oO{α:Type}{o p:29e6}{b:α}(e:o.or p=G b){C:Prop}(g:o=G b->C)(g':p=G b->C):C:=by
 cases o with
 |L=>exact g' e
 |G a=>exact g e
def cS{α:Type}{b:al}{a z:α}{o:29e6}(e:cC b 11e3 o=G z){C:Prop}(g:b=true->a=z->C)(g':b=false->o=G z->C):C:=by
 cases b with
 |false=>exact g' H e
 |true=>exact g H 11e6
def V.i_{v:V}{p}(e:v.i?=5e1):v= .y p.1 p.2:=by
 cases v with
 |y=>exact 11e6▸H
 |_=>exact 18e0
def V.o_{v:V}{p}(e:v.o?=5e1):v= .Z p:=by
 cases v with
 |Z=>exact 11e6▸H
 |_=>exact 18e0
def V.r_{v:V}{p}(e:v.r?=5e1):v= .aa p:=by
 cases v with
 |aa=>exact 11e6▸H
 |_=>exact 18e0
def V.y_{v:V}{p}(e:v.y?=5e1):v= .ch p:=by
 cases v with
 |ch=>exact 11e6▸H
 |_=>exact 18e0
def V.t_{v:V}{p}(e:v.t?=5e1):v= .X p:=by
 cases v with
 |X=>exact 11e6▸H
 |_=>exact 18e0
def V.l_{v:V}{p}(e:v.l?=5e1):v= .ad p.1 p.2:=by
 cases v with
 |ad=>exact 11e6▸H
 |_=>exact 18e0
section
variable{J:aW}{h:ai}{v:V}{u:af}
universe e
def KS{u:af}(h:pz u=true):u= .L:=af.L.ak (wD:=λu=>u= .L) u (I.fZ h) H
def tJ(a:K)(k:V):Prop:=∃t,k= .y a t
def tK(a:am)(k:V):Prop:=k= .ag a
abbrev RK{apv:Type}(f:38e8)(J:aW)(h:ai):5e6->31e6->Prop:=cJ λp q=>f q.1 p.1/\RV J h p.2 q.2
abbrev Bq:= @RK K tJ
abbrev Br:= @RK am tK
abbrev lu(J:aW)(h:ai):0e1->26e2->Prop:=cJ λp e=>(∃tk,e.cR= .ag (nm p.1) tk)/\RV J h p.2 e.oS
def adK(c:af):al:=match c with
 | .L=>true
 | .aB n=>n== "code"
 |_=>false
def iu(o:aA):al:=I.bY o.bf.cf (uW.cp #[]).cf&&adK o.bj
def r7{o:aA}(h:∀vs,o.bf≠ 27e1):iu o=false:=by
 unfold iu;cases z:I.bY o.bf.cf (uW.cp #[]).cf with
 |false=>rfl
 |true=>exact uW.cp.ak (wD:=λd=>(∀vs,d≠ 27e1)->_) o.bf (I.fZ z) (λvs h=>bM H (h vs)) h
def Rk{o:aA}(h:iu o=true):∀es n,o.bf≠ .bw es n:=λes n q=>by
 rw[r7 (λvs e=>nomatch q.bi.aV e)]at h;exact nomatch h
def tL{o:aA}{es n}(h:o.bf= .bw es n):iu o=false:=57e4
def Bs{o:aA}{c}(h:o.bf= .dm c):iu o=false:=57e4
def nL:PySem.a0:=match uJ (eh 133)with
 | .pN (G (.jR _ [_,l] _ _)) _::_=>l
 |_=> .D [] ⟨0,0,0,0⟩
def xU:X8:=match nL with
 | .Bt a _ _ _=>a
 |_=>DT (eh 133)
def vx:PySem.a0:=match nL with
 | .Bt _ b _ _=>b
 |_=> .D [] ⟨0,0,0,0⟩
def ki:cD:=match nL with
 | .Bt _ _ s _=>s
 |_=>DU (eh 133)
def kN:dA:=match nL with
 | .Bt _ _ _ p=>p
 |_=>⟨0,0,0,0⟩
def oT:am:= "_law_host.<locals>.<lambda>"
def Rl:nL= .Bt xU vx ki kN:=av
def nM(h:ai)(c:aI)(q:am):Prop:=∃o vs t,h.ao c=0e4/\o.bj= 53e4 /\o.bf= 27e1/\vs[1]? =14 q t
def lW:aI:=1391
def qK(h:ai):Prop:=∃ps,h.ao lW=G (PySem.W.apw.Rm ps)/\(ps= #[]\/∃c,ps= #[iC kN.iF,iC kN.col,.N c]/\nM h c oT)
def jr(h h':ai):Prop:=∀a o,14e4=0e4->iu o=true->18e4=0e4
def Bu{o:aA}{vs:16e5}(h:o.bj= 53e4)(d:o.bf= 27e1):iu o=true:=by
 unfold iu;rw[h,d];rfl
def jr.dH{h h':ai}(k:jr h h'){c:aI}{q:am}:nM h c q->nM h' c q:=(by intro s;(show kX s λo vs t e a b r=>?_;try clear s);exact⟨o,vs,t,k c o e (Bu a b),a,b,r⟩)
def jr.Y{h h':ai}(k:jr h h'):qK h->qK h':=(by intro s;(show aN s λps e r=>?_;try clear s);exact⟨ps,k _ _ e H,r.f5 id (by intro s;(show aN s λc a b=>?_;try clear s);exact⟨c,a,k.dH b⟩)⟩)
structure Bv(fd:jB)(c1 c2 cc:aI):Prop where
 cX:fd.cX= .xV vx
 bt:fd.bt=ki
 bV:fd.bV=xU
 rk:fd.rk=[(nm 100,c2),(nm 31,c1)]
 dH:fd.dH= .N cc
 pv:fd.pc=oT
 g8:fd.g8=iB
 jC:fd.jC=mU
 zO:fd.zO= .L
 DV:fd.DV= .L
inductive adL (J:aW) (h:ai) (p:aI×D aI) (k i:V):Prop
 |mk (fd:jB) (c1 c2:aI) (u1 u2:af) (e0:p.2=[c1,c2]) (e1:h.ao p.1=G ⟨.aB "function",L,.mi fd,#[]⟩) (apt:∃cc,Bv fd c1 c2 cc/\nM h cc oT) (i1:h.pP c1 (G u1)) (i2:h.pP c2 (G u2)) (r1:RV J h k u1) (r2:RV J h i u2)
inductive RTb (h:ai) (aD:D aI) (vs:bP af):Prop
 |mk (tb:aI) (ot:aA) (pQ:bP af) (e:aD=[tb]) (h1:vs[1]? =G (.N tb)) (h2:h.ao tb=G ot) (h3:ot.bj= .aB "traceback") (h4:ot.bf= .cp pQ) (h5:4<pQ.an)
inductive adM (J:aW) (h:ai) (p:aI×D aI) (C:aI) (d:D (I×V)):Prop
 |mk (hl:d.U<=1000) (dx:aI) (aD:D aI) (es:D iO) (n:I) (vs:bP af) (sl:bP (ar af)) (e0:p.2=dx::aD) (e1:h.ao p.1=G ⟨.N C,G dx,.cp vs,sl⟩) (e2:h.ao dx=G (hI es n)) (r:lu J h d es) (hv:vs.an=6)
   (tb:(aD=[]/\vs[1]? =G .L)\/RTb h aD vs)
inductive adN (J:aW) (h:ai) (p:aI×D aI) (C:aI) (d:D (I×V)):Prop
 |mk (hl:d.U<=1000) (dx:aI) (es:D iO) (n:I) (sl:bP (ar af)) (e0:p.2=[dx]) (e1:h.ao p.1=G ⟨.N C,G dx,.ti,sl⟩) (e2:h.ao dx=G (hI es n)) (r:lu J h d es)
def DK(w:eA)(J:aW)(h:ai)(o:aA)(l:5e6):Prop:=(∃bL,o.qL (oD pw w) bL/\Bq J h l bL)\/∃bL,o.qL (tM pw w) bL/\Br J h l bL
def RO(w:eA)(J:aW)(h:ai)(p:9e3):aps->Prop
 | .az l _=>p.2=[]/\l.U<=16777216/\∃aP,h.j8 p.1 32e4/\cx J h l aP
 | .au l=>p.2=[]/\l.U<=16777216/\∃aP,h.j8 p.1 32e4/\cx J h l.er aP
 | .bw l=>p.2=[]/\l.U<=1000/\∃o,h.ao p.1=0e4/\DK w J h o l
 | .bv C d=>adN J h p C d
 | .eF b=>p.2=[]/\b.U<=16777216/\h.ao p.1=G (314 26e7 (.qr 22e0 0))
 | .cW k i=>adL J h p k i
 | .a8 C d=>adM J h p C d
structure Fx where
 w:eA
 A:dg
 ab:ez
 os:OsState
 fz:al
def fr(x:Fx)(a:aI):Prop:=a=x.ab.cY\/(x.fz=false/\∃n,(n,a)∈x.ab.b3)
inductive FAt (ap4:ar (D ez)) (a:aI):Prop
 |mk (l:D ez) (hl:ap4=G l) (e:ez) (he:e∈l) (hf:e.ec=G a)
def FA(x:Fx)(a:aI):Prop:=FAt x.A.dY a
structure Kp(J aC:aW)(x:Fx)(h h':ai):Prop where
 bS:∀a o,h.ao a=G o->iu o=false->¬FA x a->¬fr x a->¬cy J a->h'.ao a=G o
 js:∀a o,h.ao a=G o->FA x a->¬fr x a->∃o',h'.ao a=G o'/\o'.bj=o.bj/\o'.bf=o.bf
 iV:∀a o,h.ao a=G o->iu o=true->a≠lW->h'.ao a=G o
 g5:∀a o,h.ao a=G o->∃o',h'.ao a=G o'
 fk:∀a,cy aC a->h.ao a=L
inductive adO (x:ez) (J:aW) (h:ai) (T:D (I×V)):Prop
 |mk (m:am->ar af) (hn:h.Ns x.cY m) (hm:∀k v,x.dB (nm k)=G .cV->lk T k=G v->∃u,m (nm k)=G u/\RV J h v u)
inductive adP (x:ez) (J:aW) (h:ai) (k:I) (v:V):Prop
 |mk (c:aI) (u:af) (e:x.b3.bZ (nm k)=G c) (i:h.pP c (G u)) (r:RV J h v u) (no:¬cy J c)
structure Bw(x:Fx)(J:aW)(h:ai)(T:D (I×V)):Prop where
 iN:adO x.ab J h T
 eU:∀k v,(x.ab.dB (nm k)=G .dm\/x.ab.dB (nm k)=G .eG)->lk T k=G v->adP x.ab J h k v
inductive r8 (h:ai) (e:ez):Prop
 |mk (aqQ:e.bt.d9= .jJ) (apt:aI) (o:aA) (e1:e.ec=G apt) (e2:h.ao apt=G o) (es:bP iO) (n:I) (e3:o.bf= .bw es n)
structure aK(x:Fx)(J:aW)(F:MS)(s:ae):Prop where
 d8:g9 s.M (KL x.w.bV)
 cU:J.U=F.O.U
 O:∀(i:I) (o:aps) (p:aI×D aI),F.O[i]? =G o->J[i]? =G p->RO x.w J s.M p o
 nd:(J.tN dU).dT
 gy:∀a,cy J a->lr<=a
 up:∀a,cy J a->a<s.M.O.an
 bq:Bw x J s.M F.T
 bI:∀a,fr x a->¬cy J a
 hJ:∀a,fr x a->lr<=a
 b3:(x.ab.b3.aj (·.2)).dT/\(x.ab.b3.aj (·.1)).dT/\∀n,(n,x.ab.cY)∉x.ab.b3
 hj:x.fz=false->∀n c,(n,c)∈x.ab.b3->∃w,s.M.pP c w
 gz:∀l,x.A.dY=G l->∀e∈l,r8 s.M e
 fx:∀a,FA x a->lr<=a/\¬cy J a
 dD:s.dD= #[]
 os:s.os=x.os
 cW:qK s.M
structure Fx.Ok(x:Fx)(d:I):Prop where
 fn:x.ab.bt.d9= .jJ
 vy:x.ab.g8=iB
 jN:x.ab.jC=mU
 vz:∀n,(x.ab.dB n=G .dm\/x.ab.dB n=G .eG)->(x.ab.b3.bZ n).iq=true
 g7:x.A.g7+2*d+2<DG
 jb:x.A.jb+20*d+20<cLine
 e8:x.A.e8=L
 j5:x.A.j5=G []
 dY:∃l,x.A.dY=G l/\(x.fz=false->∃l',l=x.ab::l'/\x.ab.ec=G x.ab.cY)
 iD:x.fz=true->x.ab.bt.bq.bZ (".0" :am)=G .cV
def Kp.b8(J:aW)(x:Fx)(h:ai):Kp J [] x h h:=⟨λs s e s s s s=>e,λs o e s s=>⟨o,e,H,H⟩,λa o e s s=>e,λa o e=>⟨o,e⟩,(by intro a b;(show aN b λp r s=>?_;try clear b);exact nomatch r)⟩
def jt{J aC:aW}{a:aI}:68 (J++aC) ↔ 14e2\/68 aC:=by
 constructor
 ·intro e;(show aN e λp x s=>?_;try clear e);rcases D.lI.mp x with h|h
  ·exact .a4 ⟨p,h,s⟩
  ·exact 247 p h s
 ·intro e;rcases e with⟨p,x,s⟩|⟨p,x,s⟩
  ·exact⟨p,D.w0 _ x,s⟩
  ·exact⟨p,D.uO _ x,s⟩
def Kp.aV{J s m2:aW}{x:Fx}{h r h2:ai}(a:Kp J s x h r)(b:Kp (J++s) m2 x r h2):Kp J (s++m2) x h h2:=by
 show⟨λc o e t f hL p=>b.bS c o (a.bS c o e t f hL p) t f hL λq=>?_,λc o e f hL=>?_,λc o e t n=>b.iV c o (a.iV c o e t n) t n,λc o e=>?_,λc v=>?_⟩
 ·rcases 46e3 with q|q
  ·exact p q
  ·exact 224 (a.fk c q) e
 ·show dV (a.js c o e f hL) λo1 e1 c1 d1=>?_;show dV (b.js c o1 e1 f hL) λo2 e2 c2 k=>?_;exact⟨o2,e2,c2.aV c1,k.aV d1⟩
 ·show oE (a.g5 c o e) λo1 e1=>?_;exact b.g5 c o1 e1
 ·rcases jt.mp v with q|q
  ·exact a.fk c q
  ·cases m:h.ao c with
   |L=>rfl
   |G o=>
    show oE (a.g5 c o m) λo1 e1=>?_;exact 224 (b.fk c q) e1
structure f8(J xW:aW)(h h':ai):Prop where
 X:∀a aP,jk h a aP->jk h' a aP
 ad:∀a aP,h.gW a aP->¬cy J a->h'.gW a aP/\¬cy xW a
 ei:∀a b n,h.ao a=G ⟨.aB "bytearray",L,.qr b n,#[]⟩->¬cy J a->h'.ao a=G ⟨.aB "bytearray",L,.qr b n,#[]⟩/\¬cy xW a
 Z:∀(i:I) p,J[i]? =G p->∃q,xW[i]? =G q/\q.1=p.1
 cod:∀c q,nM h c q->nM h' c q
def dP{J n:aW}{h h':ai}(k:f8 J n h h'):∀{v:V} {u:af},22e2->RV n h' v u:=by
 intro v u r;show RV.pd (motive_1:=λv u m=>RV n h' v u) (KT:=λl us m=>cx n h' l us) ?_ ?_ ?_ ?_ ?_ ?_ ?_ ?_ ?_ ?_ ?_ r
 ·exact λv=> .aa v
 ·exact λb t=> .bp b t
 ·exact λi t tk=> .y i t tk
 ·exact λs tk=> .ag s tk
 ·exact λb tk x=> .ch b tk x
 ·exact λl a aP e x m ih=> .X l a aP (k.X _ _ e) x ih
 ·exact λl t a aP e o x m ih=> .ad l t a aP (k.ad _ _ e o).1 (k.ad _ _ e o).2 x ih
 ·exact λb a e o x=> .ei b a (k.ei _ _ _ e o).1 (k.ei _ _ _ e o).2 x
 ·exact λi p e=>by
   show aN (k.Z i p e) λq w h=>?_;rw[<-h];exact .Z i q w
 ·exact .aR
 ·exact λm m a b=> .aQ a b
def hK{J s:aW}{h h':ai}(k:f8 J s h h'){l:0e0}{us:2e4}:82 l->cx s h' l us:= .f5 λx x=>dP k
def tO{J s:aW}{h h':ai}(k:f8 J s h h'){apv:Type}{f:38e8}{l:5e6}{es:31e6}:RK f J h l es->RK f s h' l es:= .f5 λx x r=>⟨r.1,dP k r.2⟩
def xX{J s:aW}{h h':ai}(k:f8 J s h h'){l:0e1}{es:26e2}:lu J h l es->lu s h' l es:= .f5 λx x r=>⟨r.1,dP k r.2⟩
def iw{J:aW}{h:ai}{l:0e0}{us:2e4}(r:82 l):us.U=l.U:=r.cU
section
variable{x:Fx}{J aC:aW}{F:MS}{s:ae}
@[elab_as_elim] def xY {p a:aI} {P:aI->Prop} (m:a∈dU (p,[])) (h:P p):P a:=D.cZ.mp m▸h
@[elab_as_elim] def Bx {p b a:aI} {P:aI->Prop} (m:a∈dU (p,[b])) (h:P p) (s:P b):P a:=(D.eR.mp m).ak (λe=>e▸h) λm=>D.cZ.mp m▸s
@[elab_as_elim] def tP {p b c a:aI} {P:aI->Prop} (m:a∈dU (p,[b,c])) (h:P p) (s:P b) (h2:P c):P a:=(D.eR.mp m).ak (λe=>e▸h) λm=>Bx m s h2
def vA(h:ai)(l:11e9):Prop:=∀a∈l,∃ob,14e4=G ob/\(ob.bj≠ 26e5 \/∀xs n,ob.bf≠ .cH xs n)
def vA.aR{h:ai}:vA h []:=λs m=>nomatch m
def vA.aQ{h:ai}{a:aI}{l:11e9}{ob:aA}(e:14e4=G ob)(n:ob.bj≠ 26e5 \/∀xs n,ob.bf≠ .cH xs n)(r:vA h l):vA h (a::l):=λb m=>(D.eR.mp m).ak (λq=>q▸⟨_,e,n⟩) (r b)
def Ro{w:eA}{J:aW}{h:ai}{p:9e3}{o:aps}(z:RO w J h p o):vA h 24e3:=by
 unfold dU;cases o with
 |az=>(show gp z λq s s x s=>?_;try clear z;(show oE x λs e=>?_;try clear x));rw[q];exact .aQ e (.a4 (show 51e4 ≠ 26e5 from aq)) .aR
 |au=>(show gp z λq s s x s=>?_;try clear z;(show oE x λs e=>?_;try clear x));rw[q];exact .aQ e (.a4 (show 51e4 ≠ 26e5 from aq)) .aR
 |bw=>
  show gp z λq s o' e z=>?_;rw[q];show .aQ e (.aE λxs n=>?_) .aR;rcases z with⟨_,⟨_,_,_,hd,_⟩,_⟩|⟨_,⟨_,_,_,hd,_⟩,_⟩<;>exact hd▸nofun
 |eF=>rw[z.1];exact 371 z.2.2 .aR
 |cW=>obtain(⟨_,_,_,_,_,q,e,_,⟨_,f1,d1⟩,⟨_,f2,a⟩,_⟩):=z;rw[q];exact 371 e (.aQ f1 (.aE (d1▸nofun)) (.aQ f2 (.aE (a▸nofun)) .aR))
 |bv=>obtain(⟨_,_,_,_,_,q,e1,e2,_⟩):=z;rw[q];exact 371 e1 (371 e2 .aR)
 |a8=>
  obtain(⟨_,_,aD,_,_,_,_,q,e1,e2,_,_,tb⟩):=z;rw[q];show 371 e1 (371 e2 ?_);rcases tb with⟨r,_⟩|⟨_,_,_,r,_,e3,_,e4,_⟩<;>rw[r]
  ·exact .aR
  ·exact .aQ e3 (.aE (e4▸nofun)) .aR
def aK.ca(R:0e9){a:aI}(h:14e2):∃ob,4e4=G ob/\(ob.bj≠ 26e5 \/∀xs n,ob.bf≠ .cH xs n):=by
 (show aN h λp r b=>?_;try clear h);obtain⟨i,e,H⟩:=D.adQ r;exact Ro (R.O i _ J[i] (D.ic (R.cU▸e)) (D.ic e)) a b
def aK.By(R:0e9){a:aI}(h:14e2){o:aA}(e:4e4=0e4)(xs n)(hd:o.bf= .cH xs n):o.bj≠ 26e5 :=by
 show aN (R.ca h) λob b z=>?_;cases ar.G.cF (e.bi.aV b);exact z.ak id λz=>bM hd (z xs n)
def r8.eH{h h':ai}{e:ez}(f:r8 h e)(k:∀a o,e.ec=11e3->14e4=0e4->∃o',18e4=G o'/\o'.bf=o.bf):r8 h' e:=by
 obtain(⟨s,apt,o,e1,e2,es,n,e4⟩):=f;show aN (k apt o e1 e2) λo' f1 x=>?_;exact⟨s,apt,o',e1,f1,es,n,x.aV e4⟩
def aK.lv(R:0e9){a:aI}{o:aA}(e:4e4=0e4)(hd:∀es n,o.bf≠ .bw es n):¬FA x a:=by
 intro p;obtain(⟨l,r,v,h,b⟩):=p;obtain(⟨_,apt,o',e1,e2,es,n,e3⟩):=R.gz l r v h;rw[b]at e1;cases e1;rw[e]at e2;cases e2;exact hd es n e3
def aK.tQ(R:0e9){a:aI}(h:fr x a){o:aA}(e:4e4=0e4):(∀xs n,o.bf≠ .cH xs n)/\(∀xs n,o.bf≠ .qr xs n)/\iu o=false:=by
 rcases h with H|⟨hz,n,r⟩
 ·obtain(⟨m,⟨o',es,ep,b,hd,_⟩,_⟩):=R.bq.iN;cases ar.G.cF (e.bi.aV b);exact⟨hd▸nofun,hd▸nofun,tL hd⟩
 ·show gd (R.hj hz n a r) λw o' b hd=>?_;cases ar.G.cF (e.bi.aV b);exact⟨hd▸nofun,hd▸nofun,Bs hd⟩
def aK.KU(R:0e9){c:aI}{o:aA}(e:37e1=0e4)(a:o.bj= 53e4):c≠lW:=by
 intro b;subst b;show aN R.cW λps h r=>?_;rw[h]at e;cases e;cases a
def aK.eH(R:aK x J F s){m2:aW}{h':ai}(k:Kp J m2 x s.M h'):f8 J (J++m2) s.M h' where
 X a aP e:=by
  (show gD e λo h m n hd=>?_;try clear e);exact⟨o,k.bS a o h (r7 λvs q=>by rw[hd]at q;cases q) (R.lv h λes n q=>by rw[hd]at q;cases q) (λq=>(R.tQ q h).1 _ _ hd) (λq=>R.By q h _ _ hd m),m,n,hd⟩
 ad a aP e o:=by
  (show gD e λob h m n hd=>?_;try clear e);exact⟨⟨ob,k.bS a ob h (r7 λvs q=>by rw[hd]at q;cases q) (R.lv h λes n q=>by rw[hd]at q;cases q) (λq=>(R.tQ q h).1 _ _ hd) o,m,n,hd⟩,λq=>(jt.mp q).ak o λq=>nN ((k.fk a q).bi.aV h)⟩
 ei a aP n e o:=⟨k.bS a _ e H (R.lv e λes n q=>by cases q) (λq=>(R.tQ q e).2.1 _ _ H) o,λq=>(jt.mp q).ak o λq=>nN ((k.fk a q).bi.aV e)⟩;Z i p e:=⟨p,by rw[D.kO (D.gM.mp e).1];exact e,H⟩;cod c q e:=(by show kX e λo vs t e a b r=>?_;exact⟨o,vs,t,k.iV c o e (Bu a b) (R.KU e a),a,b,r⟩)
def aK.rv(R:0e9){m2:aW}{h':ai}(k:69 m2 h'){v:V}{u:af}(r:15e7):RV (J++m2) h' v u:=dP (R.eH k) r
def aK.Rp(R:0e9){m2:aW}{h':ai}(k:69 m2 h'){v:0e0}{u:2e4}(r:cx J s.M v u):cx (J++m2) h' v u:=hK (R.eH k) r
def aK.a1(R:0e9)(t:I):229 F 55e1:=⟨R.d8,R.cU,R.O,R.nd,R.gy,R.up,R.bq,R.bI,R.hJ,R.b3,R.hj,R.gz,R.fx,R.dD,R.os,R.cW⟩
universe e
section
variable{α β γ δ:Type}
def xZ(J:aW)(F:MS)(i:I):Prop:=J.U<=i/\∃C d,22e1 =G (.a8 C d)
def aH(x:Fx)(J:aW)(s:ae)(r:3e3)(br:17e8)(Q:12e2)(EE:0e5):Prop:=match r with
 | .aT a F ob=>51e9/\∀aC s' u,206 F->38e6->br (J++aC) s'.M a u->Q u s'
 | .a8 i F ob=>51e9/\∀aC s' u,xZ J F i->206 (4 F.O F.bG)->38e6->RV (J++aC) s'.M 15e9 u->EE u s'
 | .no _=>fR
variable{x:Fx}{J aC:aW}{s s1:ae}{r:R α}{br:aW->ai->α->β->Prop}{Q:β->ae->Prop}{EE:af->ae->Prop}{F:MS}
def aH.ci{o:6e1}(P:11 (r.ci o)):(∀p∈o,p)/\27e7:=by
 cases r with
 |aT a F ob=>exact⟨λp h=>P.1 p (D.w0 _ h),λp h=>P.1 p (D.uO _ h),P.2⟩
 |a8 a F ob=>exact⟨λp h=>P.1 p (D.w0 _ h),λp h=>P.1 p (D.uO _ h),P.2⟩
 |no=>exact P.ak
def aH.qM(P:27e7)(apv:69 aC s1.M):aH x (J++aC) s1 r br Q EE:=by
 cases r with
 |aT a F ob=>exact⟨P.1,λm2 s' u R h r=>P.2 (aC++m2) s' u (385 R) (apv.aV h) (385 r)⟩
 |a8 a F ob=>exact⟨P.1,λm2 s' u e R h r=>P.2 (aC++m2) s' u ⟨by have:=e.1;rw[D.hM]at bb;exact I.Rq bb,e.2⟩ (385 R) (apv.aV h) (385 r)⟩
 |no=>exact P.ak
def aH.aF{f:α->MS->R γ}{h:199 γ δ}{e:38e3}(P:99 34e4 h e)
  (apz:∀a aS aC s1 u,293 aS s1->69 aC s1.M->br (J++aC) s1.M a u->aH x (J++aC) s1 (f a aS) h e EE->Q u s1):27e7:=by
 cases r with
 |aT a F ob=>exact⟨(26e9).1,λaC s' u R apv r=>apz a F aC s' u R apv r ((26e9).2.qM apv)⟩
 |a8 a F ob=>exact P
 |no=>exact P.ak
def aH.bk{a:α}(P:11 (7 a)){s':ae}{u:β}(R:229 F s')(apv:69 [] s'.M)(r:br J s'.M a u):Q u s':=
 P.2 [] s' u (296 R) apv (296 r)
def aH.jS{a:α}(P:11 (7 a)){u:β}(R:0e9)(t:I)(r:br J s.M a u):Q u 55e1:=
 P.bk (s':=55e1) (R.a1 t) (Kp.b8 ..) r
def aH.fJ{a:α}(P:11 (7 a)){u:β}(R:0e9)(r:br J s.M a u):Q u s:=P.bk R (Kp.b8 ..) r
universe e
def RB(_:aW)(_:ai)(b c:al):Prop:=b=c
inductive RF (J:aW) (h:ai):A->iK->Prop
 |next:RF J h (.f .bA) .bA
 |bk {v u}:RV J h v u->RF J h (.f (.bk v)) (.bk u)
section
variable{α β γ δ:Type}{x:Fx}{J:aW}{s:ae}{br:aW->ai->γ->δ->Prop}{Q:δ->ae->Prop}{EE:af->ae->Prop}{F:MS}
def oU{p:Prop}(h:∀q∈ [p],q):p:=h p 28e6
def aH.oV{a:α}{f:α->MS->R γ}(P:11 ((R.Y a F).aF f)):11 (f a F):=by
 exact 26e3
def aH.nP{a:α}{ob:6e1}{f:α->MS->R γ}(P:11 ((R.aT a F ob).aF f)):51e9/\11 (f a F):=26e9
def adR{op:rI}{a b:K}{t:al}{f:ey->MS->R γ}(P:11 ((Qq op a b t F).aF f)):a9 op a b=true/\11 (f () F):=by
 have cR:∀e,11 ((match t with
  |true=> .aT () F [a9 e a b=true]
  |false=>match a9 e a b with
   |true=> 40e5
   |false=> .no 6:26e1).aF f)->a9 e a b=true/\11 (f () F):=by
  intro e P;cases t with
  |true=>exact⟨53e2,P.nP.2⟩
  |false=>
   cases h:a9 e a b with
   |true=>rw[h]at P;exact(238 P.oV)
   |false=>rw[h]at P;exact P.ak
 cases op<;>first|exact⟨H,P.oV⟩|exact cR _ P
universe e
section
variable{x:Fx}{J:aW}{s:ae}{Q:af->ae->Prop}{EE:af->ae->Prop}{F:MS}
def KX{a:K}(h:a.tz<2^64):Builtin.K.Rr a<=64:=intBits_le h
def adS{op:rI}{a b k:K}{t u:al}{h tb:Tok}(e:binI op a b=G k)(R:0e9)(g:a9 op a b=true)(P:187 (.y k t)):
  101 (Bz op (.y a h) (.y b tb)):=by
 have eg:Q (.y k s.a1) 42e3:=P.jS R _ (.y k t _);clear P;cases op<;>first|exact nS e|cases ar.G.cF e
 ·exact add_int eg
 ·exact sub_int eg
 ·exact mul_int eg ((al.tR.mp g).ak (λg=> .of_left (KX (fo g))) λg=> .of_right (KX (fo g)))
 ·exact mod_int' (fo g) eg
 ·obtain⟨g1,g3⟩:=ba g;clear e;have g2:=fo (ba g1).2;have g1:=fo (ba g1).1;show pow_int g1 ?_ eg;have h1:=KX (fo g3);have h2:(Builtin.K.Rr a:K)<=64:=by exact I.BB.KY H H h1
  have h3:(Builtin.K.Rr a:K)*b<=64*1000:=K.mul_le_mul h2 g2 g1 (395 64);lia
 ·exact lshift_int_small (fo (ba (ba g).1).1) (fo (ba (ba g).1).2) (fo (ba g).2) eg
 ·exact rshift_int (fo g) eg
 ·exact or_int eg
 ·exact and_int eg
 ·show floordiv_int (fo (ba g).1) eg (.a4 (PyProof.noPylong_of_log2 ?_));by_cases h0:b.tz=0
  ·rw[h0];decide+cn
  ·have:=(I.log2_lt h0).bn (fo (ba g).2);lia
universe e
universe e
section
open PySem PySem.W PyProof.Rows PySem.Calls PySem.Spec PySem.SeqAt
set_option backward.match.sparseCases false
section
variable{x:Fx}{J:aW}{s:ae}{EE:af->ae->Prop}{F:MS}
def BD(h:ai)(u:af)(d:ck)(n:I):Prop:=(∃as,Reads h u d as)/\d.ju=true/\d.g7<=n
def adT(h:ai)(us:2e4)(ds:D ck)(n:I):Prop:=(∃as,ReadsAll h us ds as)/\ck.qN ds=true/\ck.Rs ds<=n
def Rt{f:V->ar ck}(ih:∀v u d,f v=G d->22e2->BD h u d n)(r:82 l):∀{ds:D ck},h8 f l=G ds->adT h us ds n:=by
 induction r with
 |aR=>intro ds e;obtain H:=11e6;exact⟨⟨[],.aR⟩,by simp only[ck.qN],by simp only[ck.Rs];exact 31e8⟩
 |aQ r _ x=>
  intro ds e;show aN 36e2 λd e1 e=>?_;(show aN 31e0 λds e2 s=>?_;subst s);have a:=ih _ _ _ e1 r;have b:=x e2;exact⟨⟨_,.aQ a.1.jT b.1.jT⟩,by simp only[ck.qN,a.2.1,b.2.1,al.Ru],by simp only[ck.Rs];exact I.max_le.bn ⟨a.2.2,b.2.2⟩⟩
def aps.Rv(e:o.sq=G l)(r:RO w J h p o):∃aP,h.j8 p.1 32e4/\cx J h l aP/\p.2=[]/\l.U<=16777216:=by
 cases o with
 |az m t=>obtain H:=11e6;exact⟨_,r.2.2.jT.1,r.2.2.jT.2,r.1,r.2.1⟩
 |au m=>obtain H:=11e6;exact⟨_,r.2.2.jT.1,r.2.2.jT.2,r.1,m.lx▸r.2.1⟩
 |_=>exact 19e2
def d0(r:Reads h u d as)(c:d.ju=true)(z:d.g7=0):BD h u d n:=⟨⟨_,r⟩,c,z▸31e8⟩
def BE(R:0e9)(n:I):∀(v:V) (u:af) (d:ck),eN n F.O v=G d->15e7->BD s.M u d n:=by
 induction n with
 |i4=>exact λf f f e=>19e2
 |hG n ih=>
  intro v u d e r;have app:∀{l:0e0} {us:2e4} {a:aI},151 a us->169 l->(111 n F.O l).aj .az=G d->BD s.M 2e2 d (n+1):=by
   intro l us a h k e;(show gD h λo w c m hd=>?_;try clear h);(show aN 31e0 λds e1 j=>?_;subst j);have z:=Rt ih k e1;exact(423 ⟨_,.az w c hd z.1.jT⟩)
  cases r with
  |aa=>
   cases u with
   |L=>obtain H:=11e6;exact 419 .L
   |_=>exact 19e2
  |bp b t=>obtain H:=11e6;exact 419 (.bp b)
  |y b t=>obtain H:=11e6;exact 419 (.y b _)
  |ag b t=>
   have e:cC (ck.rL b) (G (ck.ag b)) L=G _:=e;cases q:ck.rL b with
   |false=>rw[q]at e;exact 19e2
   |true=>rw[q]at e;obtain H:=11e6;exact d0 (.ag b _) (by simp only[ck.ju,q]) (by simp only[ck.g7])
  |ch=>exact 19e2
  |ei=>exact 19e2
  |X l a aP h g k=>
   (show gD h λo w c m hd=>?_;try clear h);(show aN 31e0 λds e1 j=>?_;subst j);have z:=Rt ih k e1;exact(423 ⟨_,.qz w c hd z.1.jT⟩)
  |ad l t a aP h w g k=>exact app h k e
  |Z i p P=>
   show aN 36e2 λl e1 e=>?_;show aN (ar.k7.mp e1) λo q e1=>?_;have z:=aps.Rv e1 (R.O i o p q P);exact app z.jT.1.iG z.jT.2.1 e
def adU{Q:0e5}(Y:3e6)(R:0e9)(r:eN 12 F.O a=G da)(p:eN 12 F.O b=G db)(m:17 a ua)(rb:17 b ub)
  (h:257 (ck.eqv da db) s):192 .Eq ua ub:=by
 (show hT (BE R _ _ _ _ r m) λe r2 r3=>?_;(show oE e λk r1=>?_;try clear e));(show hT (BE R _ _ _ _ p rb) λe k2 k3=>?_;(show oE e λk k1=>?_;try clear e));show compareEq_reads r1 k1 r2 k2 ?_ h;exact I.x4 (I.BF (I.tS _ (20*d)) (I.dW (I.K1 ..) (I.dW r3 aq))) Y.jb
def adV{Q:0e5}(Y:3e6)(R:0e9)(r:eN 12 F.O a=G da)(p:eN 12 F.O b=G db)(m:17 a ua)(rb:17 b ub)
  (h:257 (!ck.eqv da db) s):192 .gK ua ub:=by
 (show hT (BE R _ _ _ _ r m) λe r2 r3=>?_;(show oE e λk r1=>?_;try clear e));(show hT (BE R _ _ _ _ p rb) λe k2 k3=>?_;(show oE e λk k1=>?_;try clear e));show compareNe_reads r1 k1 r2 k2 ?_ h;exact I.x4 (I.BF (I.tS _ (20*d)) (I.dW (I.K1 ..) (I.dW r3 aq))) Y.jb
universe e
def Rw{bc:gR}{w:eA}{apv:Type}[qO apv]{gY:x5 bc w apv}{h:ai}{a:aI}{bL:31e6}(d:h.qP gY a bL):(bL.aj (·.1)).dT:=by
 (show sP d λs s s s s s s s x=>?_;try clear d);exact x
section
variable{x:Fx}{J:aW}{s:ae}{EE:af->ae->Prop}{F:MS}
def nD(x:Fx)(J:aW)(h:ai)(u:af)(l:5e6):Prop:=
 ∃a,u= 2e2/\(a==tr)=false/\((∃bL,h.qP (oD pw x.w) a bL/\Bq J h l bL)\/(∃bL,h.qP (tM pw x.w) a bL/\Br J h l bL))
def BG(J:aW)(h:ai)(o:9e5)(o':12e4):Prop:=match o with
 |G v=>∃u,o'=G u/\22e2
 |L=>o'=L
def BH:tJ a k->tJ b k'->mZ k k'=bK (a=b):=by intro x h;(show oE x λe s=>?_;try clear x;subst s);(show oE h λe s=>?_;try clear h;subst s);rfl
def BI:tK a k->tK b k'->mZ k k'=bK (a=b):=by intro h s;subst h;subst s;rfl
def Rx{apv:Type}[qO apv]{f:38e8}(e:∀{a b k s},f a k->f b s->mZ k s=bK (a=b)){h:ai}{a:apv}{k:V}(x:f a k){l:5e6}{bL:31e6}(r:RK f J h l bL):BG J h (lkV l k) (valueAt bL a):=by
 induction r with
 |aR=>rfl
 | @aQ p q l bL r _ ih=>
  refine BG J h (match mZ p.1 k with|true=>37e7|false=>lkV l k) (ar.aj (·.2) (match bK (q.1=a)with|true=>G q|false=>bL.nv _));rw[e r.1 x];cases bK (q.1=a)with
  |true=>exact⟨_,H,r.2⟩
  |false=>exact ih
def adW{h:ai}{o:aA}{bL:283 af}{w:eA}(d:o.qL (tM pw w) bL)(e:bL=[]):o.qL (oD pw w) []:=by
 subst e;(show uE d λes ep h1 h2 h3 s a=>?_;try clear d);clear h3;obtain⟨es⟩:=es;cases s;exact⟨#[],ep,h1,h2,λe x=>by simp at x,.aR,D.kP⟩
def adX{h:ai}{o:aA}{bL:D (K×af)}{w:eA}(d:o.qL (oD pw w) bL)(e:bL=[]):o.qL (tM pw w) []:=by
 subst e;(show uE d λes ep h1 h2 h3 s a=>?_;try clear d);clear h3;obtain⟨es⟩:=es;cases s;exact⟨#[],ep,h1,h2,λe x=>by simp at x,.aR,D.kP⟩
def x6{h:ai}{u:af}{l:5e6}(apr:nD x J h u l)(k:343 (nH p.1)=true):∃a bL,u= 2e2/\(a==tr)=false/\h.qP (oD pw x.w) a bL/\Bq J h l bL:=by
 (show dV apr λa e n b=>?_;try clear apr;obtain(⟨bL,d,r⟩|⟨bL,d,r⟩):=b)
 ·exact⟨a,bL,e,n,d,r⟩
 ·cases r with
  |aR=>
   show aN (ai.lX.mp d) λo s hd=>?_;exact⟨a,[],e,n,ai.lX.bn ⟨o,s,adW (h:=h) hd H⟩,.aR⟩
  |aQ r=>exact bM ((bC nH r.1).bi.aV (ba k).1) al.lK
def BJ{h:ai}{u:af}{l:5e6}(apr:nD x J h u l)(k:343 (rM p.1)=true):∃a bL,u= 2e2/\(a==tr)=false/\h.qP (tM pw x.w) a bL/\Br J h l bL:=by
 (show dV apr λa e n b=>?_;try clear apr;obtain(⟨bL,d,r⟩|⟨bL,d,r⟩):=b)
 ·cases r with
  |aR=>
   show aN (ai.lX.mp d) λo s hd=>?_;exact⟨a,[],e,n,ai.lX.bn ⟨o,s,adX (h:=h) hd H⟩,.aR⟩
  |aQ r=>exact bM ((bC rM r.1.jT).bi.aV (ba k).1) al.lK
 ·exact⟨a,bL,e,n,d,r⟩
def Ry(z:BG J h o o'):o'.iq=o.iq:=by
 cases o with
 |L=>have z:o'=L:=z;rw[z];rfl
 |G v=>(show aN z λu e s=>?_;try clear z);rw[e];rfl
set_option tactic.hygienic true in
theorem K8{l:5e6}{k:V}{m u:af}{r:9e5}{h:ai}(apr:nD x J h u l)(e:qB l k=G r)(v:RV J h k m):
  ∃(apv:Type) (_:qO apv) (gY:x5 pw x.w apv) (a:aI) (bL:31e6) (p:apv),u= 2e2/\(a==tr)=false/\h.qP gY a bL/\gY.is p m=true/\BG J h r (valueAt bL p):=by
 unfold qB at e;cases q:nI l k with
 |false=>rw[q]at e;cases e
 |true=>
  rw[q]at e;cases e;clear e;unfold nI at q;cases v<;>dsimp only at q<;>first|cases q|skip
  ·rename_i i t tk;(show jA (x6 apr q) λa bL s n d b=>?_;subst s);exact⟨_,_,oD pw x.w,a,bL,i,H,n,d,by simp[oD,af.isInt],Rx BH ⟨_,H⟩ b⟩
  ·rename_i i tk;(show jA (BJ apr q) λa bL s n d b=>?_;subst s);clear apr;exact⟨_,_,tM pw x.w,a,bL,i,H,n,d,by simp[PySem.tM,af.isStrOf],Rx BI H b⟩
def adY{Q:0e5}(apr:nD x J s.M u l)(e:qB l k=G r)(p:17 k uk)(h:257 r.iq 42e3):
  192 .In uk u:=by
 obtain(⟨apv,_,gY,a,bL,m,H,n,d,b,z⟩):=K8 apr e p;clear apr;exact wpAny_in_of b n d.mapOf (by rw[Ry z];exact h)
def adZ{Q:0e5}(apr:nD x J s.M u l)(e:qB l k=G r)(p:17 k uk)(h:257 (!r.iq) 42e3):
  192 .AS uk u:=by
 obtain(⟨apv,_,gY,a,bL,m,H,n,d,b,z⟩):=K8 apr e p;clear apr;exact wpAny_notIn_of b n d.mapOf (by rw[Ry z];exact h)
def Rz{Q:0e5}(apr:nD x J s.M u l)(e:qB l k=G 2e5)(p:17 k uk)(h:∀w,17 v w->Q w 42e3):
  101 (pj u uk):=by
 obtain(⟨apv,_,gY,a,bL,m,H,n,d,b,z⟩):=K8 apr e p;clear apr;(show aN z λw e r=>?_;try clear z);exact wpAny_getItem_of b d.mapOf e (h w r)
def K9:∀{l:0e0} {us:2e4} {is:D K},lP l=G is->82 l->tq us is:=by
 intro l;induction l with
 |aR=>intro us is e r;cases r;cases e;exact .aR
 |aQ v l a=>
  intro us is e r;cases r with
  |aQ r x=>
  cases r<;>first|cases e|skip
  (show aN 31e0 λb e1 s=>?_;subst s);clear e;exact .aQ _ _ (a e1 x)
universe e
def x7(o:aA):bP iO:=match o.bf with
 | .bw es _=>es
 |_=> #[]
def eK(e:iO):al:=af.isInt e.tU e.cR&&bK (hashInt e.tU=e.tU)
def dO(apt:26e2):aA:=(91 apt.gF apt.U)
def ad0(apt:26e2)(s:apt.dJ eK=true)(h:(apt.aj (·.tU)).dT):(dO apt).qL (oD pw w) (apt.aj λe=>(e.tU,e.oS)):=by
 show⟨_,apt.U,⟨H,H,H⟩,H,λe x=>?_,?_,?_⟩
 ·have z:=ba (D.ib.mp s e (D.mem_toArray.mp x));exact⟨e.tU,z.1,(fo z.2).bi⟩
 ·refine Pairs _ apt _;clear h;induction apt with
  |aR=>exact .aR
  |aQ p apt ih=>exact .aQ (ba (ba s).1).1 H (ih (ba s).2)
 ·rw[D.rB];exact h
def r9(u:af):V:=match u with
 | .y i _=> 6e5
 |u=> 29e8
def sb(P:ay)(v:af):ar (aI×aA):=match v with
 | .N a=>(8e0).nv λp=>340 a
 |_=>L
def x8(o:aA):ar 2e4:=match o.bf with
 | .cH xs _=>cC (decide (o.bj= 26e5)&&I.g4 xs.an 16777216) (G xs.f3) L
 |_=>L
def toG(P:ay)(v:af):V:=match v with
 | .ag s _=> .ag s
 | .bp b=> .bp b false
 |v=>((sb P v).cr λq=>x8 q.2).ak (r9 v) λus=> .X (us.aj r9)
def x9(P:ay)(a:I):26e2:=((sb P 2e2).ak #[] λq=>x7 q.2).f3
section
variable{P:ay}{h:ai}{J:aW}(A:g9 h (KL P))
def ya(h:sb P v=G q):v= .N q.1/\q∈8e0:=by
 cases v with
 |N a=>exact⟨bC af.N (I.fZ (D.find?_some (p:=λp:aI×aA=>340 a) h)).bi,D.uP (p:=λp:aI×aA=>340 a) h⟩
 |_=>exact nN h
def RA(us:2e4):82 (us.aj r9):=by
 induction us with
 |aR=>exact .aR
 |aQ u us ih=>exact .aQ (by cases u<;>constructor) ih
def ad1(e:x8 o=G us)(s:14e4=0e4):RV J h (.X (us.aj r9)) 2e2:=by
 unfold x8 at e;cases hd:o.bf with
 |cH xs n=>
  rw[hd]at e;cases c:bK (o.bj= .aB "tuple")&&I.g4 xs.an 16777216 with
  |true=>
   dsimp only at e;rw[c]at e;obtain H:=11e6;exact .X _ a xs.f3 ⟨o,s,fo (ba c).1,n,hd⟩ (368 (I.cz (ba c).2)) (RA _)
  |false=>dsimp only at e;rw[c]at e;exact 19e2
 |_=>rw[hd]at e;exact 19e2
include A
def RC(v:af):RV J h (toG P v) v:=by
 have z:∀{w:V},RV J h w v->RV J h (((sb P v).cr λq=>x8 q.2).ak w λus=> .X (us.aj r9)) v:=λ{w} r=>by
  cases e:(sb P v).cr λq=>x8 q.2 with
  |L=>exact r
  |G us=>
   (show aN 36e2 λs e1 e2=>?_;obtain⟨a,o⟩:=s);rw[(ya e1).1];exact ad1 e2 (A _ (ya e1).2)
 cases v with
 |ag=>exact .ag ..
 |bp=>exact .bp ..
 |y=>exact z (.y ..)
 |_=>exact z 14e9
universe e
def ad2(P:ay):tx.aj (λp=>sb P 7e2)=tx.aj λp=>G (p.1,dO (x9 P p.1)):=av
def ad3(P:ay):tx.dJ (λp=>(x9 P p.1).dJ eK&&(decide ((x9 P p.1).aj (·.tU)).dT&&!(p.1==tr)))=true:=av
def ad4(P:ay):tx.aj (·.2)=tx.aj λp=>(x9 P p.1).aj λe=>(0 e.tU,toG P e.oS):=av
def ad5(A:g9 h 36e4)(m:(a,l)∈tx):nD x J h 2e2 l:=by
 have z:=ba (243 (ad3 x.w.bV) m);have s:=ba z.2;show⟨a,H,al.w7 _▸s.2,.a4 ⟨_,ai.lX.bn ⟨_,A _ (ya (110 (ad2 x.w.bV) m)).2,ad0 _ z.1 (fo s.1)⟩,?_⟩⟩;rw[show l=_ from 110 (ad4 x.w.bV) m];generalize x9 x.w.bV a=apt;induction apt with
 |aR=>exact .aR
 |aQ e apt ih=>exact .aQ ⟨25e1,RC A _⟩ ih
noncomputable def ad6(P:ay)(k:I):12e4:=(La (x7 (34 gh 2135 143 144)) 5e5).or (La (x7 13e0) 5e5)
def gl_tab(P:ay):gl.aj 52e8=gl.aj λp=>(ad6 P p.1).aj (toG P):=av
def nQ{α:Type}(p:I×α)(l:34e6)(k:I):19 (p::l)=141 p.1 k 37e7 (19 l):=av
def BK{α:Type}(p:I×α)(l:34e6)(k:I)(v:α):fv (p::l) k v=141 p.1 k ((p.1,v)::l) (p::fv l k v):=av
def iW{α:Type}{l:34e6}{k:I}{v:α}(e:19 l=2e5):(k,v)∈l:=by
 induction l with
 |aR=>exact 19e2
 |aQ p l ih=>
  rw[nQ]at e;cases q:I.bY p.1 k with
  |true=>
   rw[q]at e;obtain H:=11e6;rw[<-42e8];exact D.dQ ..
  |false=>rw[q]at e;exact 54 (ih e)
def RD{P:ay}{h:ai}{J:aW}(A:253 h){k:I}{v:V}(e:19 gl=2e5):
  ∃u,22e2/\(h.jG iB 5e5=G u\/(h.jG iB 5e5=L/\h.jG mU 5e5=G u)):=by
 (show aN (ar.ha.mp (110 (gl_tab P) (iW e)).bi) λu e1 s=>?_;subst s);have e3:h.jG iB 5e5=La (x7 (34 gh 2135 143 144)) 5e5:=by unfold ai.jG;rw[k3 A];rfl
 have e0:h.jG mU 5e5=La (x7 13e0) 5e5:=by unfold ai.jG;rw[k0 A];rfl
 rw[e3,e0];exact⟨u,RC A u,ar.ad7.mp e1⟩
section
variable{x:Fx}{J:aW}{s:ae}{EE:af->ae->Prop}{F:MS}{Q:af->ae->Prop}{d:I}
def RE{A:dg}(Y:3e6)(R:0e9){k:I}{v:V}{id:am}(h:id=5e5)(b:39e2=G .ly)(e:19 gl=2e5)(P:∀u,15e7->Q u s):
  aY (bh pw x.w) A (yb x.ab id) Q EE s:=by
 subst h;show aN (RD (J:=J) R.d8 e) λu r z=>?_;rw[ad8 Y.fn b];unfold loadGlobal;rw[Y.vy,Y.jN];show bg (yc (.vB (pg R.d8)) ?_);rcases z with z|⟨z,a⟩
 ·rw[z];exact bX (P _ r)
 ·rw[z];show bg (yc (.vB (Au R.d8)) ?_);rw[a];exact bX (P _ r)
def ad9(Y:3e6)(R:0e9){k:I}{v:V}{id:am}(h:id=5e5)(a:39e2=G .ly)(e:19 gl=2e5)(P:187 v):
  101 (yb x.ab id):=RE Y R h a e λu r=>P.fJ R r
def aea(Y:3e6)(R:0e9){k:I}{v:V}{id:am}(a:id=5e5)(h:39e2=12e3)(e:19 F.T=2e5)(P:187 v):
  101 (yb x.ab id):=by
 subst a;obtain⟨m,b,hm⟩:=R.bq.iN;show aN (hm k v h e) λu e1 r=>?_;exact RG Y.fn h b e1 (P.fJ R r)
def aeb(Y:3e6)(R:0e9){k:I}{v:V}{id:am}(a:id=5e5)(h:39e2=18e8)(e:19 F.T=2e5)(P:187 v):
  101 (yb x.ab id):=by
 subst a;obtain(⟨c,u,b,p,r,_⟩):=R.bq.eU k v 25e7 e;exact wpAny_loadName_cell Y.fn h b p (P.fJ R r)
def aec(Y:3e6)(R:0e9){k:I}{v:V}{id:am}(p:id=5e5)(h:39e2=23e5)(e:19 F.T=2e5)(b:(id==56e3)=false)(P:187 v):
  101 (yb x.ab id):=by
 subst p;obtain(⟨c,u,m,a,r,_⟩):=R.bq.eU k v (.aE h) e;exact RH Y.fn h m a (P.fJ R r) b
universe e
section
variable{x:Fx}{J:aW}{s:ae}{EE:af->ae->Prop}{F:MS}{Q:af->ae->Prop}{d:I}
def aed{A:dg}{h:ai}{a b:V}{u w:af}{c:al}(e:eq1 a b=G c)(r:145 a)(q:RV J h b w)(s:ae):EqAt A s u w c:=
 oO e (λe1=>oB e1 λp h1 e2=>oB e2 λm h2 e3=>by
  cases V.r_ h1;cases V.r_ h2;cases r using tI.cE;cases q using tI.cE
  clear e e1 e2
  cases x:pz u&&pz w with
  |false=>rw[x]at e3;exact nS e3
  |true=>rw[x]at e3;rw[KS (ba x).1,KS (ba x).2,<-ar.G.cF e3];exact EqAt.fE _)
 λe1=>oB e1 λp h1 e2=>ap3 e2 λm h2=>by
  clear e2 e1 e;cases V.y_ h1;cases V.y_ h2;cases r using xT.cE;cases q using xT.cE;clear h2 h1;exact λbc w E Q k=>eqBool_bytes (by simpa using k)
def aee{A:dg}{h:ai}{l:0e0}{us:2e4}(r:82 l):∀{m:0e0} {p:2e4} {b:al},cx J h m p->eqB l m=G b->
  ∃e:I->al,us.U=p.U/\(∀(s:ae) j (h1:j<us.U) (h2:j<p.U),EqAt A s us[j] p[j] (e j))/\(D.dS us.U).dJ e=b:=by
 induction r with
 |aR=>
  intro m p b q e;cases q with
  |aR=>exact⟨λk=>true,H,λk j h=>bM h (I.Lb _),11e6⟩
  |aQ=>exact 18e0
 | @aQ x u l us r o v=>
  intro m p b q e;cases q with
  |aR=>exact 18e0
  | @aQ app w m p q i=>
   show aN 36e2 λg e1 e=>?_;(show aN 31e0 λc e2 n=>?_;subst n);clear e;show dV (v i e2) λf h1 h2 h3=>?_;show⟨λj=>j.cE g f,bC (· +1) h1,λs j=>j.cE (λk k=>aed e1 r q s) λj a b=>h2 s j (I.RI a) (I.RI b),?_⟩;rw[D.m6,D.range_succ_eq_map,D.td,D.all_map,<-h3];rfl
def aps.vC(e:o.li=G l)(r:RO w J h p o):∃aP,h.j8 p.1 32e4/\cx J h l aP/\p.2=[]/\l.U<=16777216:=by
 cases o with
 |az m t=>obtain H:=11e6;exact⟨_,r.2.2.jT.1,r.2.2.jT.2,r.1,r.2.1⟩
 |_=>exact 18e0
def RJ{os:1e0}{a b:V}{c t:al}(e:pB os a b=G (c,t)):∃h s,eN 12 os a=G h/\eN 12 os b=G s/\c=ck.eqv h s:=by
 show aN 36e2 λh x e=>?_;show aN 31e0 λs r e=>?_;exact⟨h,s,x,r,(bC (·.1) e).bi⟩
def aef(Y:3e6)(R:0e9){a b:V}{u n:af}{c t:al}(e:vEq F.O a b=G (c,t))(app:17 a u)(rb:17 b n)(w:257 c s):
  192 .Eq u n:=by
 rcases ar.ad7.mp e with e|⟨_,e⟩
 ·(show jz (RJ e) λC B r h apw=>?_;subst apw);exact adU Y R r h app rb w
 ·show oB e λi h1 e1=>oB e1 λj h2 e2=>?_;cases V.o_ h1;cases V.o_ h2;clear e e1 h1 h2;cases app using mD.cE with|Z p g=>
  cases rb using mD.cE with|Z z W=>
  cases q:I.bY i j with
  |true=>rw[q]at e2;exact nS e2
  |false=>
   rw[q]at e2;show oB e2 λl k e=>oB e λm hm e=>oB k λo P k=>oB hm λo' S hm=>?_;show aN 31e0 λv e1 e2=>?_;obtain H:v=c:=bC (·.1) e2;clear e2;show dV (aps.vC k (42 i P g)) λus r apD apA=>?_;show dV (aps.vC hm (R.O j _ z S W)) λapE h apq apA=>?_;show dV (aee (A:=x.A.fg) apD apq e1) λf h1 h2 h3=>?_;clear e1;show eq_listAt r.iG h.iG h1 (I.x4 bN Y.jb) (e:=f) (λj a b=>h2 s j a b) ?_;clear e;rw[show(D.dS (188 us)).dJ f=v from h3];exact w
def aeg(Y:3e6)(R:0e9){a b:V}{r h:af}{c t:al}(e:pB F.O a b=G (c,t))(n:17 a r)(rb:17 b h)(v:257 (!c) s):
  192 .gK r h:=by
 (show jz (RJ e) λw q p k m=>?_;subst m);clear e;exact adV Y R p k n rb v
def BL(r:145 a):(u==af.L)=ty a:=by
 cases r with
 |aa=>cases u<;>rfl
 |_=>rfl
def aeh{p:9e3}(R:0e9){i:I}(h:J[i]? =5e1):(p.1==tr)=false:=
 sd.bn λq=>bM (q▸R.gy p.1 ⟨p,D.ja h,D.dQ ..⟩) aq
def aps.di_{o:aps}{m}(e:o.di=G m):o= .bw m:=by
 cases o with
 |bw=>exact 11e6▸H
 |_=>exact 18e0
def aei{m}(e:vf u=G m):∃d,u= .N d/\Qr d=G m:=by
 cases u with
 |N d=>exact⟨d,H,e⟩
 |_=>exact 18e0
def yd(R:0e9){b:V}{u:af}{l:5e6}(e:AT F b=G l)(r:17 b u):nD x J s.M u l:=
 oO e (λe=>oB e λp h1 e=>by
  (show aN (aei e) λd m e=>?_;subst m)
  cases V.r_ h1;cases r using tI.cE;exact ad5 R.d8 (iW e))
 λe=>oB e λi h1 e=>oB e λo n e=>by
  cases aps.di_ e;clear e;cases V.o_ h1;clear h1;cases r using mD.cE with|Z p a=>
  show gp (42 i n a) λh h o k z=>?_;exact⟨p.1,H,aeh R a,z.f5 (.f5 λh w=>⟨377 o k w.1,w.2⟩) (.f5 λh w=>⟨377 o k w.1,w.2⟩)⟩
def RL(h:vf u=G l):AT F 29e8=G l:=by
 refine(vf u).or L=_;rw[h];rfl
def RM{C:Prop}(R:0e9)(e:xt a b F=G (c,t))(m:17 a ua)(rb:17 b ub)
  (ht:∀{apr aP i tk is},ua= .y i tk->ub= 43e7->jk s.M apr 32e4->tq aP is->is.fN (· ==i)=c->C) (hd:∀{l r},nD x J s.M ub l->qB l a=G r->r.iq=c->C):C:=
 oO e (λe1=>oB e1 λl h1 e2=>oB e2 λis v e3=>by
  show aN (ar.ha.mp e3) λp h2 e4=>?_
  clear e3
  cases V.t_ h1;cases V.i_ h2
  clear h2
  cases rb using KR.cE with|X apr aP k h n=>cases m using vw.cE;exact ht H H k (K9 v n) (bC (·.1) e4))
 λe=>oB e λl h e=>by
  show aN 31e0 λr e1 e2=>?_;clear e;exact hd (yd R h rb) e1 (bC (·.1) e2)
def aej(R:0e9)(e:xt a b F=G (c,t))(r:17 a ua)(rb:17 b ub)(p:∀k,257 c 24e6):192 .In ua ub:=
 RM R e r rb (λh1 h2 m n h=>by subst h1 h2;exact in_tuple_ints m n (h▸p s.a1)) λapr e1 h=>adY apr e1 r (h▸p _)
def aek(R:0e9)(e:xt a b F=G (c,t))(r:17 a ua)(rb:17 b ub)(p:∀k,257 (!c) 24e6):192 .AS ua ub:=
 RM R e r rb (λh1 h2 m n h=>by subst h1 h2;exact notin_tuple_ints m n (h▸p s.a1)) λapr e1 h=>adZ apr e1 r (h▸p _)
def RN(e:xu o=G (c,t)):o=G (!c,t):=by
 (show aN 31e0 λs h e=>?_;obtain⟨a,b⟩:=s);obtain H:(!a)=c:=bC (·.1) e;obtain H:b=t:=bC (·.2) e;clear e;rw[h,al.not_not]
def BM{f:K->K->al}{C:af->af->Prop}(e:i2 f a b=G (c,t))(x:RV J h a ua)(rb:RV J h b ub)(g:∀i j tk s,f i j=c->C (.y i tk) (.y j s)):C ua ub:=
 oB e λp h1 e1=>by
  clear e;show aN (ar.ha.mp e1) λq h2 e2=>?_;clear e1;cases V.i_ h1;cases V.i_ h2;cases x using vw.cE;cases rb using vw.cE;clear h2 h1;exact g _ _ _ _ (bC (·.1) e2)
def RP{a b:V}{s:af}{c t d:al}{C:153 af}(e:AU b a d=G (c,t))(rb:RV J h b s)(g:(ty a !=d)=c->C .L):C s:=by
 unfold AU at e;cases z:ty b with
 |false=>rw[z]at e;exact 18e0
 |true=>
  rw[z]at e;rw[<-BL rb]at z;exact jv z▸g (bC (·.1) 11e6)
def ael(Y:3e6)(R:0e9){a b:V}{p r:af}{c t:al}(e:lQ op a b F=G (c,t))(m:17 a p)(rb:17 b r)
  (hQ:∀k,257 c 24e6):192 op p r:=by
 have h0:257 c s:=hQ s.a1;cases op with
 |Eq=>exact aef Y R e m rb h0
 |gK=>exact aeg Y R (RN e) m rb (by simpa using h0)
 |Lt=>exact BM (C:=λp r=>192 .Lt p r) (f:=λi j=>decide (i<j)) (a:=a) (b:=b) e m rb λh h h h q=>PySem.P.lt_int (q▸h0)
 |lj=>exact BM (C:=λp r=>192 .lj p r) (f:=λi j=>335 i j) (a:=a) (b:=b) e m rb λh h h h q=>PySem.P.le_int (q▸h0)
 |Gt=>exact BM (C:=λp r=>192 .Gt p r) (f:=λi j=>decide (i>j)) (a:=a) (b:=b) e m rb λh h h h q=>PySem.P.gt_int (q▸h0)
 |oK=>exact BM (C:=λp r=>192 .oK p r) (f:=λi j=>decide (i>=j)) (a:=a) (b:=b) e m rb λh h h h q=>PySem.P.ge_int (q▸h0)
 |Is=>exact RP (C:=λr=>192 .Is p r) e rb λq=>PySem.is_none (by rw[BL m];simpa [<-q]using h0)
 |oJ=>exact RP (C:=λr=>192 .oJ p r) e rb λq=>PySem.isNot_none (by rw[BL m];simpa [<-q]using h0)
 |In=>exact aej R e m rb hQ
 |AS=>exact aek R (RN e) m rb (by simpa using hQ)
universe e
section
variable{α β γ δ:Type}{x:Fx}{J:aW}{s:ae}{EE:af->ae->Prop}{br:aW->ai->α->δ->Prop}{Q:δ->ae->Prop}{w:I}{m:aW}{h:ai}
def eD{C:Prop}{f:β->54e4}(P:11 (gN o w f))(g:∀a,o=11e3->11 (f a)->C):C:=by
 cases o with
 |L=>exact P.ak
 |G a=>exact g a H P
def fU{C:Prop}(P:11 (gB b w r))(g:b=true->27e7->C):C:=by
 cases b with
 |false=>exact P.ak
 |true=>exact g H P
def kQ{C:Prop}(P:11 (cC b r r'))(g:b=true->27e7->C)(g':b=false->11 r'->C):C:=by
 cases b with
 |false=>exact g' H P
 |true=>exact g H P
@[elab_as_elim] def m7 {C:V->af->Prop} {f:K->al->Internal.R α} (r:RV m h v u) (P:aH x J s (gI v w f) br Q EE) (g:∀i t tk,aH x J s (f i t) br Q EE->C (.y i t) (.y i tk)):C v u:=by
 cases r with
 |y i t tk=>exact g i t tk P
 |_=>exact P.ak
@[elab_as_elim] def Lc {C:V->af->Prop} {f:I->Internal.R α} (r:RV m h v u) (P:aH x J s (gO v w f) br Q EE) (g:∀i p,m[i]? =G p->aH x J s (f i) br Q EE->C (.Z i) (.N p.1)):C v u:=by
 cases r with
 |Z i p e=>exact g i p e P
 |_=>exact P.ak
def RQ{C:Prop}{f:I->54e4}(P:11 (A0 v w f))(g:∀a,v= 26e0->11 (f a)->C):C:=by
 cases v with
 |aa u=>cases u with
  |N a=>exact g a H P
  |_=>exact P.ak
 |_=>exact P.ak
def aem{C:Prop}{f:am->54e4}(P:11 (QC v w f))(g:∀a,v= .ag a->11 (f a)->C):C:=by
 cases v with
 |ag a=>exact g a H P
 |_=>exact P.ak
@[elab_as_elim] def gC_ {C:D V->D af->Prop} {f:V->D V->Internal.R α} (e:cx m h as us) (P:aH x J s (gC as w f) br Q EE) (g:∀a u as us,RV m h a u->cx m h as us->aH x J s (f a as) br Q EE->C (a::as) (u::us)):C as us:=by
 cases e with
 |aR=>exact P.ak
 |aQ r e=>exact g _ _ _ _ r e P
@[elab_as_elim] def BN {C:D V->D af->Prop} (e:cx m h as us) (P:aH x J s (g0 as w r) br Q EE) (g:aH x J s r br Q EE->C [] []):C as us:=by
 cases e with
 |aR=>exact g P
 |aQ=>exact P.ak
@[elab_as_elim] def lz {C:D V->D af->Prop} {f:V->Internal.R α} (e:cx m h as us) (P:aH x J s (g1 as w f) br Q EE) (g:∀a u,RV m h a u->aH x J s (f a) br Q EE->C [a] [u]):C as us:=by
 cases e with
 |aR=>exact P.ak
 |aQ r e=>exact BN e P λP=>g _ _ r P
universe e
section
variable{α β γ δ:Type}{x:Fx}{J:aW}{s:ae}{EE:af->ae->Prop}{F:MS}{d:I}
def aK.bG(R:0e9)(o:2e1):160 ⟨F.O,F.T,o⟩:=⟨R.d8,R.cU,R.O,R.nd,R.gy,R.up,R.bq,R.bI,R.hJ,R.b3,R.hj,R.gz,R.fx,R.dD,R.os,R.cW⟩
def BO{Q:29e1}(e:ll F.O v=G (b,t))(r:15e7)(p:∀k,Q b 24e6):
  101 (PySem.ll u):=by
 have h0:Q b s:=p s.a1;cases v with
 |aa w=>
  cases r using tI.cE;cases z:pz u with
  |false=>
   have e:cC (pz u) (G (false,false)) L=G (b,t):=e;rw[z]at e;exact 18e0
  |true=>
   cases KS z;cases bC (·.1) (ar.G.cF e);exact truthy_none h0
 |bp b t=>cases r using KQ.cE;cases bC (·.1) (ar.G.cF e);exact Ld h0
 |y i t=>
  cases r using vw.cE;cases bC (·.1) (ar.G.cF e);exact truthy_int (by rw[show(i !=0)=bK (i≠0)from al.eq_iff_iff.bn (bne_iff_ne.aV (BP).bi)];exact h0)
 |ch l=>
  cases r using xT.cE with|ch tk h=>
  cases bC (·.1) (ar.G.cF e);exact truthy_bytes (I.dW h aq) (by cases l<;>exact p _)
 |ad l t=>
  cases r using Bp.cE with|ad a aP m q h n=>
  cases bC (·.1) (ar.G.cF e);show wpAny_truthy_list m (K.Le.bn (I.x4 (I.hZ n.cU) (I.x4 h aq))) ?_;clear e m q h h0;cases n<;>exact p _
 |_=>exact 18e0
def ye{β:Type}{C:38e5}{l:2e1}{d:β}{f:cq->2e1->β}(hd:C d)(s:∀q o,C (f q o)):C (vd l d f):=by
 cases l with
 |aR=>exact hd
 |aQ q o=>exact s q o
def aen{β:Type}{C:38e5}{l:2e1}{d:β}{f g:V->2e1->β}(hd:C d)(h:∀app o,C (f app o))(s:∀app o,C (g app o)):C (Qo l d f g):=ye hd λq o=>by
 cases q with
 |v app=>exact h app o
 |m app=>exact s app o
 |_=>exact hd
variable{Q:af->ae->Prop}
def RV.mk1(r:22e2):145 v.mk1:=by
 cases r with
 |y=>exact .y ..
 |bp=>exact .bp ..
 |_=>first|(constructor<;>assumption)|(rename_i r;exact r)
def vD{o:9e5}{t:al}(P:10 (tA o t F))(R:0e9):∃v,o=2e5/\∀u k,15e7->Q u 24e6:=by
 have z:∀{w},10 (gN o w λv=> 21e8)->∃v,o=2e5/\∀u k,15e7->Q u 24e6:=λP=>eD P λv e P=>⟨v,e,λu k r=>P.jS R k r⟩;cases t with
 |false=>exact z P
 |true=>
  revert P;show aen (C:=λr=>10 r->∃v,o=2e5/\∀u k,15e7->Q u 24e6) z (λapp o' P=>⟨app,oU P.1,λu k r=>?_⟩) λapp o' P=>?_
  ·exact P.2 [] 24e6 u (by rw[D.dZ];exact(R.bG o').a1 k) (Kp.b8 ..) (296 r)
  ·(show aN (ar.ha.mp (oU P.1)) λv e h=>?_;subst h);exact⟨v,e,λu k r=>P.2 [] 24e6 u (by rw[D.dZ];exact(R.bG o').a1 k) (Kp.b8 ..) (296 r.mk1)⟩
def RR(n k:I):(44e0+(n:K)).aJ=n-(k+1):=(bC K.aJ (K.BQ ..)).aV (K.toNat_sub n (k+1))
set_option tactic.hygienic true in
theorem Lf(b:151 a aP)(h:cx J s.M l aP)(w:43e6)(e:dq l i=2e5)(m:∀u,15e7->Q u s):
  101 (pj 2e2 (.y i tk)):=by
 have n:=iw h;unfold dq at e;split at e
 ·rename_i k;show aN (h.dM e) λu e1 r=>?_;have q:=(117 e);exact wpAny_getItem_list (k:=K.cg k) b (K.nR k) (show((k:I):K)<_ by lia) (by simpa using e1) (m u r)
 ·rename_i k;split at e
  ·rename_i p;have p:=I.cz p;show aN (h.dM e) λu e1 r=>?_;have hs:44e7=aP.U:=H;show wpAny_getItem_list_neg b (K.aeo k) (by rw[hs];lia) bN (x:=u) ?_ (m u r);rw[hs];have:(44e0+(aP.U:K)).aJ=l.U-(k+1):=by rw[RR,n]
   rw[bb];simpa using e1
  ·cases e
def aep{k n:I}(h:k+1<=n):44e0+(n:K)=((n-(k+1):I):K):=bN
set_option tactic.hygienic true in
theorem aeq(p:jk s.M a 32e4)(b:cx J s.M l aP)(q:43e6)(e:dq l i=2e5)(n:∀u,15e7->Q u s):
  101 (pj 2e2 (.y i tk)):=by
 have w:=iw b;unfold dq at e;split at e
 ·rename_i k;show aN (b.dM e) λu e1 r=>?_;have o:=(117 e);show aer (k:=K.cg k) p (by have:(0:K)<=K.cg k:=K.nR k;exact K.neg_ofNat_le_ofNat (2^63) k) (show((k:I):K)<_ by lia) (j:=k) ?_ (by simpa using e1) (n u r);unfold RS;have h1:¬(K.cg k<0):=by have:(0:K)<=K.cg k:=K.nR k;exact K.AA bb
  have h2:(0<=K.cg k):=K.nR k;have h3:(K.cg k<44e7):=by refine((k:I):K)<((aP.U:I):K);lia
  simp only[d6 h1,eE h2,eE h3,al.Ru,wC];rfl
 ·rename_i k;split at e
  ·rename_i h;have h:=I.cz h;show aN (b.dM e) λu e1 r=>?_;show aer p bN bN (j:=l.U-(k+1)) ?_ (by simpa using e1) (n u r);unfold RS;have hs:44e7=aP.U:=H;have h1:(44e0<0):=K.aeo k;have m:44e0+44e7=((l.U-(k+1):I):K):=by rw[hs,w];exact aep h
   have h2:(0<=44e0+44e7):=m▸K.nR _;have h3:(44e0+44e7<44e7):=K.mF (K.aes h1 _) (K.hZ (K.zero_add _));simp only[eX h1,eE h2,eE h3,al.Ru,wC,ar.G.fu];rw[m];exact K.tm _
  ·cases e
def aet(R:0e9)(f:17 a ua)(ri:17 i ap5)(P:10 (xx a i F)):
  101 (pj ua ap5):=by
 induction f using RV.cE with
 |X l a aP n h m=>exact m7 ri P λk t tk P=>(vD P R).ak λv z=>aeq n m h z.1 λu r=>z.2 u s.a1 r
 |ad l t a aP n g h m=>exact m7 ri P λk t tk P=>(vD P R).ak λv z=>Lf n m h z.1 λu r=>z.2 u s.a1 r
 |Z o p j=>
  show eD P λob q P=>?_;cases ob with
  |az l t=>
   show gp (42 o q j) λd h aP n m=>?_;exact m7 ri P λk t tk P=>(vD P R).ak λv z=>Lf n.iG m h z.1 λu r=>z.2 u s.a1 r
  |au l=>
   show gp (42 o q j) λd h aP n m=>?_;show m7 ri P λk t tk P=>fU P λc P=>(vD P R).ak λv z=>?_;cases fo c;show Lf (l:=l.er) (i:= -1) n.iG m (393 D.lx) ?_ λu r=>z.2 u s.a1 r;clear m h;have e:=z.1;cases l with
   |aR=>cases e
   |aQ app l=>
    cases ar.G.cF e;clear e;refine(match I.g4 (0+1) (v::l).er.U with|true=>(v::l).er[(v::l).er.U-(0+1)]? |false=>L)=2e5;rw[show I.g4 (0+1) (v::l).er.U=true from I.ble_eq_true_of_le (by simp)];simp
  |bw l=>exact eD P λr hr P=>(vD P R).ak λv z=>Rz (yd (b:= .Z o) R (show(F.dM o).cr aps.di=G l by rw[q];rfl) (.Z o p j)) (z.1▸hr) ri λw rC=>z.2 w _ rC
  |_=>exact P.ak
 |aa w=>exact eD P λl q P=>eD P λr hr P=>(vD P R).ak λv z=>Rz (yd R (RL q) 14e9) (z.1▸hr) ri λw rC=>z.2 w _ rC
 |_=>exact P.ak
universe e
section
variable{x:Fx}{J:aW}{s:ae}{EE:af->ae->Prop}{F:MS}{d:I}{h':ai}
def se{w:eA}{J i:aW}{h h':ai}(k:f8 J i h h'){p:9e3}(s:∀a∈dU p,∀o,14e4=0e4->18e4=0e4):∀{o:aps},RO w J h p o->RO w i h' p o:=by
 intro o z;cases o with
 |az l t=>(show gp z λq x aP m u=>?_;try clear z;(show oE m λo e=>?_;try clear m));exact⟨q,x,aP,⟨o,358 _ e⟩,hK k u⟩
 |au l=>(show gp z λq x aP m u=>?_;try clear z;(show oE m λo e=>?_;try clear m));exact⟨q,x,aP,⟨o,358 _ e⟩,hK k u⟩
 |bw l=>show gp z λq x o e z=>?_;exact⟨q,x,o,358 _ e,z.f5 (.f5 λg w=>⟨w.1,tO k w.2⟩) (.f5 λg w=>⟨w.1,tO k w.2⟩)⟩
 |bv C d=>obtain(⟨x,v,es,n,sl,q,e1,e2,r⟩):=z;exact⟨x,v,es,n,sl,q,358 _ e1,s v 53e7 _ e2,xX k r⟩
 |eF b=>exact⟨z.1,z.2.1,358 _ z.2.2⟩
 |cW a b=>obtain(⟨fd,c1,c2,u1,u2,q,e,⟨cc,z,R⟩,⟨o1,f1,d1⟩,⟨o2,f2,c⟩,r1,r2⟩):=z;exact⟨fd,c1,c2,u1,u2,q,358 _ e,⟨cc,z,k.cod _ _ R⟩,⟨o1,s c1 53e7 _ f1,d1⟩,⟨o2,s c2 53e7 _ f2,c⟩,dP k r1,dP k r2⟩
 |a8 C d=>
  obtain(⟨x,v,aD,es,n,vs,sl,q,e1,e2,r,j,tb⟩):=z;show⟨x,v,aD,es,n,vs,sl,q,358 _ e1,s v 53e7 _ e2,xX k r,j,tb.f5 id ?_⟩;intro f;obtain(⟨t,apA,apq,f1,f2,V,app,P,S⟩):=f;exact⟨t,apA,apq,f1,f2,s t (by unfold dU;rw[q,f1];simp) _ V,app,P,S⟩
def aeu{h h':ai}(x:51e3){a:aI}{m}:h.Ns a m->h'.Ns a m:=(by intro s;(show om s λo es ep e r=>?_;try clear s);exact⟨o,es,ep,x a o e,r⟩)
def RT{p:aW}{h h':ai}{T:0e1}(k:f8 J p h h')(w:51e3)(j:∀c,¬cy J c->c<h.O.an->¬cy p c)(apC:Bw x J h T):Bw x p h' T:=by
 obtain(⟨⟨m,i,hm⟩,l⟩):=apC;show⟨⟨m,aeu w i,λs v a b=>?_⟩,λs v a b=>?_⟩
 ·show aN (hm s v a b) λu e r=>?_;exact⟨u,e,dP k r⟩
 ·obtain(⟨c,u,e,n,r,no⟩):=l s v a b;show aN (id n) λo q d=>?_;exact⟨c,u,e,n.eH w,dP k r,j c no (ai.cQ q)⟩
def jc{h h':ai}(k:51e3):f8 J J h h':=
 ⟨(by intro a x s;(show aN s λo e r=>?_;try clear s);exact⟨o,k a o e,r⟩),(by intro a x s n;(show aN s λo e r=>?_;try clear s);exact⟨⟨o,k a o e,r⟩,n⟩),λa b n e no=>⟨k _ _ e,no⟩,λx p e=>⟨p,e,H⟩,λx x=>jr.dH λa o e x=>k a o e⟩
def Lg{h h':ai}{aC:aW}(b:51e3)(r:∀a,68 aC->14e4=L):56 J x h h':=
 ⟨λa o e s s s s=>b a o e,λa o e s s=>⟨o,b a o e,H,H⟩,λa o e s s=>b a o e,λa o e=>⟨o,b a o e⟩,r⟩
def RW{h h':ai}{aC:aW}(s:51e3)(hs:h.O.an<=h'.O.an)(e:∀a,68 aC->h.O.an<=a):56 J x h h':=
 Lg s λa b=>ai.tV (e a b)
def Lh{w:eA}{J:aW}{h:ai}{p:9e3}{a:aI}(s:a∈24e3){o:aps}(z:RO w J h p o):∃q,14e4=G q:=(Ro z a s).f5 λx e=>e.1
def aK.g5(R:0e9){a:aI}(h:14e2):∃q,4e4=G q:=by
 show aN h λp b h=>?_;obtain⟨i,e,H⟩:=D.adQ b;exact Lh h (R.O i _ J[i] (D.ic (R.cU▸e)) (D.ic e))
def aK.tW(R:0e9):∀a,FA x a->a<s.M.O.an:=by
 intro a h;obtain(⟨l,b,v,r,e⟩):=h;obtain(⟨_,apt,o',e1,e2,_⟩):=R.gz l b v r;rw[e]at e1;cases e1;exact ai.cQ e2
def aK.jw(R:0e9)(h:50e0)(k:I):241 F k/\32e3:=by
 show⟨⟨λp r=>h _ _ (R.d8 p r),R.cU,λi o p e1 e2=>se (jc h) (λa b o e=>h a o e) (R.O i o p e1 e2),R.nd,R.gy,λa u=>(by show oE (R.g5 u) λq e=>?_;exact ai.cQ (h a q e)),RT (jc h) h (λb a b=>a) R.bq,R.bI,R.hJ,R.b3,λz n c f=>?_,λl v e d=>(R.gz l v e d).eH λa o b e=>⟨o,h a o e,H⟩,R.fx,R.dD,R.os,jr.Y (λa o e b=>h a o e) R.cW⟩,Lg h (by intro a m;(show aN m λp r b=>?_;try clear m);exact nomatch r)⟩;show oE (R.hj z n c f) λw j=>?_;exact⟨w,j.eH h⟩
def aK.ext(R:0e9)(h:50e0)(hs:341 h'.O.an)(k:I):241 F k/\32e3:=R.jw h k
def tX{p:9e3}{a:aI}:68 [p] ↔ a∈24e3:=⟨λ⟨q,s,x⟩=>by rw[D.cZ]at s;subst s;exact x,λh=>⟨p,28e6,h⟩⟩
def aK.Li(R:0e9)(v:50e0)(hs:341 h'.O.an){p:9e3}{o:aps}
  (m:∀a∈dU p,s.M.O.an<=a/\a<h'.O.an) (hn:(24e3).dT) (RX:∀a,fr x a->a<s.M.O.an) (oW:RO x.w (J++[p]) h' p o) (k:I):
  165 J [p] ⟨F.O++[o],F.T,F.bG⟩ (84 h' k)/\69 [p] h':=by
 have apv:69 [p] h':=RW v hs λa r=>(m a (tX.mp r)).1;have bS:=R.eH apv;have u:∀c,¬cy J c->c<s.M.O.an->¬cy (J++[p]) c:=λc h1 h2 h3=>(jt.mp h3).ak h1 λh=>bM (m c (tX.mp h)).1 (I.jV.bn h2);have S:lr<=s.M.O.an:=350 (R.hJ _ 2e6) (RX _ 2e6);show⟨⟨λp m=>v _ _ (R.d8 p m),by simp[R.cU],λi app q e1 e2=>?_,?_,λa r=>?_,λa r=>?_,RT bS v u R.bq,λa r=>u a (R.bI a r) (RX a r),R.hJ,R.b3,λz n c W=>?_,λl t e apA=>(R.gz l t e apA).eH λa o d e=>⟨o,v a o e,H⟩,λa r=>⟨(121 r).1,u a (121 r).2 (R.tW a r)⟩,R.dD,R.os,jr.Y (λa o e d=>v a o e) R.cW⟩,apv⟩
 ·by_cases j:i<F.O.U
  ·rw[D.kO j]at e1;rw[D.kO (R.cU▸j)]at e2;exact se bS (λa d o e=>v a o e) (R.O i app q e1 e2)
  ·have h1:=(117 e1);rw[D.hM,D.RY]at h1;have f:i=F.O.U:=by exact I.aev h1 j
   subst f;rw[28e5,I.jj]at e1;rw[<-R.cU,28e5,I.jj]at e2;cases e1;cases e2;exact oW
 ·rw[D.aew,D.RZ];show⟨R.nd,by simpa using hn,λa r b P=>?_⟩;intro e;subst e;show aN (D.Lj.mp r) λq apq V=>?_;have h1:=R.up a ⟨q,apq,V⟩;have h2:=(m a (by simpa using P)).1;exact 31 h1 h2
 ·rcases jt.mp r with h|h
  ·exact R.gy a h
  ·exact I.dW S (m a (tX.mp h)).1
 ·rcases jt.mp r with h|h
  ·exact I.mF (R.up a h) hs
  ·exact(m a (tX.mp h)).2
 ·show oE (R.hj z n c W) λw g=>?_;exact⟨w,g.eH v⟩
def aK.m8(R:0e9):∀a,fr x a->a<s.M.O.an:=by
 intro a h;rcases h with H|⟨z,n,b⟩
 ·obtain⟨m,hm,_⟩:=R.bq.iN;exact hm.lt
 ·show gd (R.hj z n a b) λw o e r=>?_;exact 9e1
def aK.vE(R:0e9):∀a,fr x a->∃o,4e4=0e4:=by
 intro a h;rcases h with H|⟨z,n,r⟩
 ·obtain(⟨m,⟨o,es,ep,e,_⟩,_⟩):=R.bq.iN;exact⟨o,e⟩
 ·show gd (R.hj z n a r) λw o b p=>?_;exact⟨o,b⟩
def aK.vF(R:0e9):∀a,FA x a->∃o,4e4=0e4:=by
 intro a h;obtain(⟨l,b,v,r,e⟩):=h;obtain(⟨_,apt,o',e1,e2,_⟩):=R.gz l b v r;rw[e]at e1;cases e1;exact⟨_,e2⟩
def jW{h:ai}(o:aA):∀a q,14e4=G q->(h.b6 o).ao a=G q:=λs s e=>ai.eo o e
def vG{h:ai}(o:aA):h.O.an<=(h.b6 o).O.an:=by unfold ai.b6;simp
def Lk{h:ai}(o:aA):h.O.an<(h.b6 o).O.an:=by unfold ai.b6;simp
def aK.BR{Q:0e5}(R:0e9){o:aps}(e:50e0)(hz:s.M.O.an<h'.O.an)(P:10 (F.jn o))(k:I)
  (ap6:f8 J (J++[34e2]) s.M h'->RO x.w (J++[34e2]) h' 34e2 o):156 9e8 k:=by
 have apC:=R.Li (p:=34e2) (o:=o) e (I.jx hz) (λa h=>xY h ⟨11e7,hz⟩) (D.jd.bn ⟨nofun,.aR⟩) R.m8 (ap6 (R.eH (RW e (I.jx hz) λa h=>xY (tX.mp h) 11e7))) k;show P.2 [_] _ _ apC.1 apC.2 (.Z _ 34e2 ?_);rw[<-R.cU,28e5,I.jj];rfl
def aK.Ll(R:0e9){apr:aI}(h:s.M.ao apr=L):¬cy J apr:=λo=>(by show oE (R.g5 o) λa e=>?_;exact nN (h.bi.aV e))
def BS{Q:0e5}{apr:aI}{us:2e4}{l:0e0}{t:al}(R:0e9)(e:50e0)(b:h'.gW apr 29e5)(r:s.M.ao apr=L)(h:43e6)(p:cx J h' l us)(P:187 (.ad l t))(k:I):
  156 43e7 k:=by
 have E:=R.jw e k;exact P.bk E.1 E.2 (.ad l t apr us b (R.Ll r) h p)
def R0{Q:0e5}{fz t:al}{us:2e4}{l:0e0}(R:0e9)(h:50e0)(r:169 l)(b:h'.j8 s.M.O.an 29e5)(p:43e6)(P:10 (F.mkR fz l t))(k:I):
  156 9e8 k:=by
 unfold MS.mkR at P;cases fz with
 |true=>exact BS R h b.iG 52e0 p (hK (jc h) r) P k
 |false=>
  show oE (id b) λn e=>?_;exact R.BR h 9e1 P k λbS=>⟨H,p,us,b,hK bS r⟩
def BT{Q:0e5}{fz t:al}{l:0e0}{us:2e4}(R:0e9)(h:169 l)(P:10 (222 l t))(o:aA)(v:o.bj= 19e6)(hd:∃n,o=(327 29e5 n))(r:o.DQ=false)(k:I):
  us.U<=16777216/\Q 9e8 {s with M:=s.M.b6 o,a1:=k}:=by
 have m:=iw h;have cR:∀bR,bR=F->l.U<=16777216->10 (bR.mkR fz l t)->us.U<=16777216/\Q 9e8 {s with M:=s.M.b6 o,a1:=k}:=by
  intro bR e a b;subst e;show oE hd λn hd=>?_;exact⟨bN,R0 R (jW o) h ⟨n,by rw[<-hd];exact ai.fF _ r⟩ a b k⟩
 unfold MS.ka gu at P;cases t with
 |true=>exact cR F H 53e2 P.nP.2
 |false=>
  dsimp only at P;split at P
  ·rename_i p;exact cR F H (I.cz p) P.oV
  ·exact P.ak
universe e
section
variable{γ δ:Type}{x:Fx}{J:aW}{s:ae}{EE:af->ae->Prop}{F:MS}{d:I}
def tY{f:ey->MS->Internal.R γ}{br:199 γ δ}{Q:38e3}(P:11 ((oP b t F).aF f)):b=true/\11 (f () F):=by
 unfold oP at P;cases t with
 |true=>exact⟨53e2,P.nP.2⟩
 |false=>cases b with
  |true=>exact(238 P.oV)
  |false=>exact P.ak
def R7(r:82 l):∀n:I,cx J h (D.gi n l).xo (D.gi n us).xo
 |0=> .aR
 |n+1=>by rw[D.Lm,D.Lm,D.R8,D.R8];exact r.lV (R7 r n)
def Ln(R:0e9)(e:xn F.O v=G l)(r:15e7):∃a aP,u= 2e2/\151 a aP/\cx J s.M l aP/\l.U<=16777216:=
 oO e (λe1=>by
  clear e
  (show aN (ar.ha.mp e1) λp h1 h=>?_;subst h)
  cases V.l_ h1
  cases r using Bp.cE with|ad a aP k c b w=>exact⟨a,aP,H,k,w,b⟩)
 λe1=>oB e1 λi h1 e2=>oB e2 λo q e3=>by
  clear e1;cases V.o_ h1;cases r using mD.cE with|Z p n=>
  show sO (aps.vC e3 (42 i q n)) λaP h1 h2 j m=>?_;exact⟨p.1,_,H,h1.iG,h2,m⟩
variable{Q:af->ae->Prop}
def aex(R:0e9)(u:151 a us)(j:151 b ws)(rl:169 l)(c:cx J s.M m ws)
  (P:10 (222 (l++m) t)):101 (Bz .dw 2e2 (.N b)):=by
 (show gD (id u) λh v w n hd=>?_;obtain(⟨bj,dd,bf,sl⟩):=h);(show gD (id j) λh p k i r=>?_;obtain(⟨f,jq,data2,o⟩):=h);simp only at w hd k r;subst w hd k r;have e:bP.mk us++bP.mk ws=bP.mk (us++ws):=by simp
 show oA (BT R (rl.lV c) P (308 ⟨us++ws⟩) H 25e1 H s.a1) λq d=>?_;show concat_meets (51 v) (51 p) noFill_list_add seq_list_add PySem.apu.slot_list_add PySem.apu.entry_list_add (PySem.apu.args_list_add_2 _ _)
  (list_addW a b 29e5 ⟨ws⟩ n i dd jq sl o (by rw[f0];simpa using q)) ⟨v,p,?_⟩
 rw[e];exact d
def aey(R:0e9)(v:151 a us)(rl:169 l)(p:jM n=true)
  (P:10 (222 (dN l n) t)):101 (Bz .f4 2e2 (.y n u)):=by
 (show gD (id v) λm h r k hd=>?_;obtain(⟨bj,dd,bf,sl⟩):=m);simp only at r hd;subst r hd;simp only[jM,al.lb,mW]at p;have cR:=listMul_foldl_if (⟨us⟩:16e5) n.aJ;show oA (BT R (R7 rl n.aJ) P {bj:=51e4,bf:=uW.cH (D.iT (λi q=>i++q) #[] (D.gi (if(⟨us⟩:16e5).jL=true then 0 else n.aJ) 29e5))} H ⟨_,by rw[cR]⟩ H s.a1) λe j=>?_;have w:(⟨us⟩:16e5).an*n.aJ<=16777216:=by
  have:(285 us).xo.U=n.aJ*us.U:=by simp
  rw[bb,I.R9]at e;exact e
 show wpAny_binaryOp_repeat_ref (apq:= "list") (apA:= "int") aq (51 h) (λs'=>Az s' n u) noFill_list_mul apu.fills_int_mul apu.aez repeat_list apu.PJ.bZ
  (Sa apu.aez (Az s n u) apu.entry_int_rmul (apu.args_int_rmul_2 _ _) (lm_int_rmul_list_any n u a 29e5 k dd sl)
   ⟨h,H,(51 h),Sa apu.slot_list_mul (51 h) apu.entry_list_mul (apu.args_list_mul_2 _ _)
    (lm_list_mul_any a 29e5 k dd sl n u (by simp[Builtin.D.listFitsIndex];exact i3.bi ((λ{a b}=>i3.comm.mp) p)) bN (by unfold Builtin.D.Lo;rw[f0];simpa using w))
    ⟨h,j⟩⟩)
def aeA(R:0e9)(o:17 a ua)(rb:17 b ub)(P:10 (Ki fz op a b F)):
  101 (Bz op ua ub):=by
 have ci:∀{a},17 a ua->10 (Kh fz op a b F)->101 (Bz op ua ub):=λ{a} o P=>fU P λe P=>eD P λl r P=>eD P λm hm w=>by
  clear P;(show jA (Ln R r o) λV us q v rl apq=>?_;subst q);(show jA (Ln R hm rb) λb' W q app apA apq=>?_;subst q);cases fo e;exact aex R v app rl apA w
 induction o using RV.cE with
 |y i t tk=>exact m7 rb P λj u f P=>eD P λk S P=>(adR P).ak λg P=>adS (u:=false) S R g P
 |ch l tk r=>
  show fU P λe P=>m7 rb P λn u f P=>?_;obtain⟨g,w⟩:=tY P;cases fo e;simp only[xr,al.lb,mW]at g;obtain(⟨⟨⟨g1,g2⟩,g3⟩,h⟩):=g;have h:=I.cz h;show bytes_mul_any (b:=l) (by cases l<;>simp_all) g2 g3 h λt' k=>w.jS R k (.ch _ t' ?_);clear w;have e1:(285 l).xo.U=n.aJ*l.U:=by simp
  have e2:n.aJ*l.U<=n.aJ*16:=I.mul_le_mul_left _ h;clear h;refine(285 l).xo.U<=_;lia
 |ad l t a aP v e r d=>
  cases op with
  |f4=>exact m7 rb P λn u tk P=>(tY P).ak λg P=>aey R v d g P
  |_=>exact ci (.ad l t a aP v e r d) P
 |aa=>exact ci 14e9 P
 |bp=>exact ci (.bp ..) P
 |ag=>exact ci (.ag ..) P
 |X _ _ _ a b c=>exact ci (.X _ _ _ a b c) P
 |ei _ _ a b c=>exact ci (.ei _ _ a b c) P
 |Z i p z=>exact ci (.Z i p z) P
universe e
def Lp(lo:8e5)(n:I):ve lo n=lo.ak 0 (kL n):=by cases lo<;>rfl
def Lq(s:8e5)(n:I):xq s n=s.ak n (kL n):=by cases s<;>rfl
def aeB(a b:I):(jo (a:K) (b:K)).aJ=jo a b:=by
 rcases I.le_total a b with h|h
 ·rw[K.Lr (K.BU.bn h),I.Lr h];exact K.tm _
 ·rw[K.max_eq_left (K.BU.bn h),I.max_eq_left h];exact K.tm _
def Sb{α:Type}(us s:8e4)(lo h:8e5):(((bP.mk us).oX 0 (50e5).aJ++bP.mk s)++(bP.mk us).oX (jo 50e5 ((h.ak us.U (kL us.U):I):K)).aJ us.U)=bP.mk (bW us lo h s):=by
 apply bP.jw;rw[bW,Lp,Lq,aeB,K.tm,bP.aeC,bP.aeC,bP.aeD,bP.aeD];simp only[D.extract_eq_drop_take,I.sub_zero,D.drop_zero];congr 1;rw[D.take_of_length_le (by rw[D.sf];exact 11e7)]
def Sc(us:2e4)(lo s:8e5):slicePick 29e5 lo s L=⟨bE us lo s⟩:=by
 rw[slicePick_plain,bE,Lp,Lq];rfl
def Ls{α:Type}(l:8e4)(lo s:8e5):(bE l lo s).U<=l.U:=by
 unfold bE;rw[D.qQ,D.sf];exact I.dW (I.Sd ..) (I.Se ..)
section
variable{γ δ:Type}{x:Fx}{J:aW}{s:ae}{EE:af->ae->Prop}{F:MS}{d:I}
def Sf(lo s:8e5)(r:82 l):cx J h (bE l lo s) (bE us lo s):=by
 unfold bE;rw[iw r];exact(r.fh _).fG _
variable{Q:af->ae->Prop}
def Lu{fz t:al}{l:0e0}{a sl:aI}{us:2e4}{e b:af}{lo h:8e5}(R:0e9)(r:151 a us)(rl:169 l)(k:43e6)
  (hs:s.M.rE sl e b .L) (pl:la e lo) (pu:la b h) (P:10 (222 (bE l lo h) t)):101 (pj 2e2 29e7):=by
 have m:=iw rl;show oA (BT R (Sf lo h rl) P (308 ⟨bE us lo h⟩) H 25e1 H s.a1) λn p=>?_;exact aeE r hs pl pu .L (by simp) (by rw[Sc];exact p) (364 us.U)
def BV(b:4e9)(lo s:8e5):KBy.Av 22e0 lo s=⟨bE b lo s⟩:=by
 rw[KBc.picked_eq,bE,Lp,Lq];rfl
def aeF{b:4e9}{sl:aI}{e a:af}{lo h:8e5}(R:0e9)(p:106 b.U)
  (hs:s.M.rE sl e a .L) (pl:la e lo) (pu:la a h) (P:187 (.ch (bE b lo h))):101 (pj (.iQ 22e0 tk) 29e7):=by
 have r:(bE b lo h).U<=16777216:=I.dW (Ls b lo h) p;exact getItem_meets (po _ _ _) aq FB.aeG FB.entry_bytes_getitem (FB.args_bytes_getitem_2 _ _) (KBc.meets_slice2 22e0 tk _ pl pu)
  ⟨hs,by rw[BV,f0];exact r,λt' k=>by rw[BV];exact P.jS R k (.ch _ t' r)⟩
universe e
def BW(P:ay):(8e0).dJ (λp=>I.jN p.1 lr)=true:=av
def Sg(l:1e0):∀(i j:I) (o:aps),(mu l i o)[j]? =if i=j/\i<l.U then 0e4 else l[j]? :=by
 induction l with
 |aR=>exact λi j o=>(d6 λh=>bM h.2 (I.Lb i)).bi
 |aQ app l s=>
  intro i j o;cases i with
  |i4=>cases j with
   |i4=>exact(eX ⟨H,I.succ_pos _⟩).bi
   |hG j=>exact(d6 λh=>bM h.1.bi (I.Si j)).bi
  |hG i=>cases j with
   |i4=>exact(d6 λh=>bM h.1 (I.Si i)).bi
   |hG j=>
    have ih:=s i j o;refine(mu l i o)[j]? =if i+1=j+1/\i+1<l.U+1 then 0e4 else l[j]?;simp only[I.add_lt_add_iff_right,I.add_right_cancel_iff];exact ih
def Lv:∀(l:1e0) (i:I) (o:aps),(mu l i o).U=l.U
 | [],_,_=>rfl
 |_::_,0,_=>rfl
 |_::l,i+1,o=>bC (· +1) (Lv l i o)
section
variable{x:Fx}{J:aW}{s:ae}{F:MS}{h':ai}
def aK.sg(R:0e9){i j:I}{p q:9e3}(n:J[i]? =5e1)(m:J[j]? =G q){a:aI}(e:a∈24e3)(b:a∈dU q):i=j:=by
 have nd:=R.nd;rw[D.dT,D.yf]at nd;show oE (D.gM.mp n) λli r=>?_;show oE (D.gM.mp m) λh k=>?_;have pw:=nd.2;rw[D.Sj]at pw;rcases I.lt_trichotomy i j with z|z|z
 ·exact(pw i j li h z a (by rw[r];exact e) a (by rw[k];exact b) H).ak
 ·exact z
 ·exact(pw j i h li z a (by rw[k];exact b) a (by rw[r];exact e) H).ak
def aK.Sk(R:0e9){i:I}{p:9e3}{a:aI}(apA:J[i]? =5e1)(apq:a∈24e3)(h:∀b q,b≠a->8e8=G q->s'.M.ao b=G q)(E:∀q,4e4=G q->iu q=false)
  (oW:f8 J J s.M s'.M->RO x.w J s'.M p o') (hg:s'.dD=s.dD) (Lw:s'.os=s.os):229 (F.cN i o') s'/\69 [] s'.M:=by
 have k:14e2:=⟨p,D.ja apA,apq⟩;have tk:jr s.M s'.M:=λb q e t=>h b q (λz=>by subst z;rw[E _ e]at t;cases t) e;clear E;have bS:f8 J J s.M s'.M:=by
  show⟨λb aP e=>?_,λb aP e no=>?_,λb apv n e no=>?_,λd p e=>⟨p,e,H⟩,λd d=>jr.dH tk⟩
  ·show gD e λo e c n dd=>?_;exact⟨o,295 b o (R.By k e _ _ dd c) e,c,n,dd⟩
  ·show aN e λo e r=>?_;exact⟨⟨o,295 b o (no k) e,r⟩,no⟩
  ·exact⟨295 b _ (no k) e,no⟩
 show⟨⟨λq g=>h _ _ (λz=>?_) (R.d8 q g),by rw[R.cU];exact(Lv ..).bi,λj o q e1 e2=>?_,R.nd,R.gy,λb app=>?_,?_,R.bI,R.hJ,R.b3,λz n c S=>?_,λl C e A=>(R.gz l C e A).eH λb o e1 e2=>⟨o,391 o ((R.fx b ⟨l,C,e,A,e1⟩).2 k) e2,H⟩,R.fx,hg.aV R.dD,Lw.aV R.os,tk.Y R.cW⟩,?_⟩
 ·have h1:=D.ib.mp (BW x.w.bV) q g;have h2:=R.gy a k;rw[<-z]at h2;exact 31 (I.si.mp h1) h2
 ·have f1:(mu F.O i o')[j]? =0e4:=e1;clear e1;rw[Sg]at f1;split at f1
  ·rename_i P;(show oA P λapF d=>?_;try clear P;subst apF);rw[apA]at e2;cases f1;cases e2;exact oW bS
  ·rename_i P;have apz:j≠i:=λz=>by
    subst z;exact P ⟨H,by rw[<-R.cU];exact(117 e2)⟩
   exact se bS (λb app B e=>295 b B (apz (R.sg e2 apA app apq)) e) (R.O j o q f1 e2)
 ·show oE (R.g5 app) λq e=>?_;clear apA;by_cases apE:b=a
  ·subst apE;show oE (Lh apq (oW bS)) λB apx=>?_;exact ai.cQ apx
  ·exact ai.cQ (h b q apE e)
 ·obtain(⟨⟨m,apr,hm⟩,S⟩):=R.bq;have hL:x.ab.cY≠a:=λz=>R.bI _ 2e6 (z▸k);show⟨⟨m,(by(show om apr λo es ep e r=>?_;try clear apr);exact⟨o,es,ep,h _ o hL e,r⟩),λW v b c=>?_⟩,λW v b c=>?_⟩
  ·show aN (hm W v b c) λu e r=>?_;exact⟨u,e,30e4⟩
  ·obtain(⟨apu,u,e,⟨oc,V,apw⟩,r,no⟩):=S W v b c;exact⟨apu,u,e,⟨oc,295 _ _ (no k) V,apw⟩,30e4,no⟩
 ·show gd (R.hj z n c S) λw oc V apw=>?_;exact⟨w,oc,h _ _ (λapy=>by subst apy;exact R.bI _ (247 z n S) k) V,apw⟩
 ·show⟨λb q e d d d no=>295 b q (no k) e,λb q e f d=>⟨q,391 q ((R.fx b f).2 k) e,H,H⟩,λb q e t d=>tk b q e t,λb q e=>?_,(by intro b apD;(show aN apD λq g d=>?_;try clear apD);exact nomatch g)⟩
  ·by_cases app:b=a
   ·subst app;clear k;exact Lh apq (oW bS)
   ·exact⟨q,h b q app e⟩
def aK.m9(R:0e9)(m:J[i]? =5e1)(r:a∈24e3)(hs:166 a h')(h:∀q,4e4=G q->iu q=false)
  (oW:f8 J J s.M h'->RO x.w J h' p o') (k:I):241 (F.cN i o') k/\32e3:=
 R.Sk (s':=(84 h' k)) m r (λb q n e=>(hs.2 b n).aV e) h oW H H
universe e
section
variable{γ δ:Type}{x:Fx}{J:aW}{s:ae}{EE:af->ae->Prop}{F:MS}{d:I}
def sj{f:ey->MS->Internal.R γ}{br:199 γ δ}{Q:38e3}(P:11 ((gu n t F).aF f)):n<=16777216/\11 (f () F):=by
 unfold gu at P;cases t with
 |true=>exact⟨53e2,P.nP.2⟩
 |false=>
  cases h:I.g4 n 16777216 with
  |true=>dsimp only at P;rw[h]at P;exact⟨I.cz h,P.oV⟩
  |false=>dsimp only at P;rw[h]at P;exact P.ak
def tZ{h:ai}{a:aI}{aP:16e5}(s:h.gW a aP):∀q,14e4=G q->iu q=false:=by
 intro q e;(show gD s λo x b n hd=>?_;try clear s);rw[x]at e;cases e;exact r7 λvs q=>by rw[hd]at q;cases q
variable{Q:af->ae->Prop}
def Lx(R:0e9)(a:J[i]? =5e1)(n:22e1 =G (.az l t))(r:15e7)
  (P:10 ((gu (l.U+1) t F).aF λj F=> 276 (.az (l++[v]) t))):101 (409 [7e2,u]):=by
 show oA (sj P) λhs P=>?_;show gp (42 i n a) λq w aP h e=>?_;have o:=iw e;show aeH h (λh' m b=>?_) (364 aP.U);have apA:=338 (.az (l++[v]) t) a b (tZ h.iG) ⟨q,by simpa using hs,aP++[u],by simpa using m,.lV (hK k e) (.aQ (dP k r) .aR)⟩ s.a1;exact 266 14e9
def aeI(R:0e9)(a:J[i]? =5e1)(w:22e1 =G (.au l))(r:15e7)
  (P:10 ((gu (l.U+1) true F).aF λo F=> 276 (.au (v::l)))):101 (409 [7e2,u]):=by
 show oA (sj P) λhs P=>?_;show gp (42 i w a) λq j aP h e=>?_;have m:=iw e;rw[D.lx]at m;show aeH h (λh' n b=>?_) (364 aP.U);have apA:=338 (.au (v::l)) a b (tZ h.iG) ⟨q,by simpa using hs,aP++[u],by simpa using n,by rw[D.Bo];exact .lV (hK k e) (265 (dP k r))⟩ s.a1;exact 266 14e9
universe e
universe e
section
open PySem PySem.W PyProof.Rows PySem.Calls PySem.Spec PySem.SeqAt PySem.MeetsSeq
open AutoSeq1 (wpAny_loadPart')
set_option backward.match.sparseCases false
def aeJ(l:aI)(aP:16e5)(n:I)(dd:ar aI)(sl:bP 12e4)(app:af)(a:aP[aP.an-1]? =G app)(e:aP.an<=JV):
  Meets (Builtin.«list.pop» (61 [.N l]))
   (λq R s=>s.M.ao l=G {bj:= 19e6,bw:=dd,bf:= .cH aP n,nB:=sl}/\332 app {s with M:=s.M.eM l (aA.px λxs=>xs.BX (aP.an-1))}):=
 .of_wp λbc w A R s h=>by
  obtain(⟨v,g,d,tk,os⟩):=s;show oA h λx h=>?_;have k:0<aP.an:=by
   rcases I.eq_zero_or_pos aP.an with h0|h0
   ·simp[h0]at a
   ·exact h0
  have p:¬aP.jL=true:=by
   intro m;have:aP.an=0:=by simpa using m
   exact I.vb k bb
  have r:RS (-1) aP.an=G (aP.an-1):=by
   rw[PySem.seqIndex_neg aq (by clear p a e;lia)];exact bC G (RR _ 0)
  wp_walk using wpAny_loadPart' x;simp only[r,a,ar.yg,ar.tc];have b:(aP.BX (aP.an-1)).an<=JV+1:=I.dW (size_erased aP _) (I.aeK e);wp_walk using(AH x H (hz:=e) (_hz':=b)),wpAny_loadPart' x;exact⟨_,H,h⟩
section
variable{γ δ:Type}{x:Fx}{J:aW}{s:ae}{EE:af->ae->Prop}{F:MS}{d:I}
def Sl:∀{l:0e0} {us:2e4},82 (l++[v])->∃s u,us=s++[u]/\cx J h l s/\22e2:=by
 intro l;induction l with
 |aR=>intro us r;cases r with|aQ r x=>cases x;exact⟨[],_,H,.aR,r⟩
 |aQ w l p=>
  intro us r;cases r with
  |aQ r x=>
  show jz (p x) λs u e a b=>?_;exact⟨_::s,u,bC _ e,.aQ r a,b⟩
def aeL(us:2e4)(u:af):(bP.mk (us++[u])).BX ((188 (us++[u]))-1)=bP.mk us:=by
 have h1:(188 (us++[u]))-1=us.U:=by refine(us++[u]).U-1=_;simp
 rw[h1];have h2:us.U<(188 (us++[u])):=by refine us.U<(us++[u]).U;simp
 apply bP.jw;simp[bP.BX,h2,D.eraseIdx_append_of_length_le]
variable{Q:af->ae->Prop}
def Sm(p:s.M.j8 a ⟨us++[u]⟩)(k:us.U+1<=16777216)(h:∀h',h'.j8 a 29e5->166 a h'->157 u):
  101 (260 "list.pop" [2e2]):=by
 (show oE p λn r=>?_;try clear p);have m:(bP.mk (us++[u]))[(188 (us++[u]))-1]? =G u:=by
  have h1:(188 (us++[u]))-1=us.U:=by refine(us++[u]).U-1=_;simp
  rw[h1];simp
 have e:∃b,aA.px (λxs=>xs.BX ((188 (us++[u]))-1)) (327 ⟨us++[u]⟩ n)=(327 29e5 b):=by
  unfold aA.px;dsimp only;rw[aeL];exact 25e1
 show oE e λb e=>?_;show Sa PySem.apu.aeM (51 r) PySem.apu.entry_list_pop (PySem.apu.args_list_pop_1 _) (aeJ a _ n L #[] u m (by rw[f0];refine(us++[u]).U<=_;simpa using k)) ⟨r,h _ ⟨b,?_⟩ (ai.fy.eM ..)⟩;rw[258 r (by rw[e];rfl),e]
def aeN(R:0e9)(b:J[i]? =5e1)(o:22e1 =G (.au (v::r)))(P:10 (161 v i (.au r))):
  101 (260 "list.pop" [7e2]):=by
 show gp (42 i o b) λq e aP a h=>?_;rw[D.Bo]at h;(show jz (Sl h) λus u n m rv=>?_;subst n);clear h;have j:=iw m;simp only[D.lx]at j;simp only[D.m6]at e;show Sm a bN λh' l w=>?_;have apA:=338 (.au r) b w (tZ a.iG) ⟨q,by exact I.aeO e,us,l,hK k m⟩ s.a1;have k:=R.eH apA.2;rw[D.dZ]at k;exact 266 (dP k rv)
def aeP(R:0e9)(b:J[i]? =5e1)(n:22e1 =G (.az l t))(e:l.er=v::r)(P:10 (161 v i (.az r.er t))):
  101 (260 "list.pop" [7e2]):=by
 show gp (42 i n b) λq h aP a m=>?_;clear n;have el:l=r.er++[v]:=by rw[<-D.Sn l,e,D.Bo]
 clear e;subst el;(show jz (Sl m) λus u j w rv=>?_;subst j);clear m;have c:=iw w;simp only[D.lx]at c;simp only[D.hM,D.lx,D.RY]at h;show Sm a bN λh' d o=>?_;have apA:=338 (.az r.er t) b o (tZ a.iG) ⟨q,by rw[D.lx];exact I.aeO h,us,d,hK k w⟩ s.a1;have k:=R.eH apA.2;rw[D.dZ]at k;exact 266 (dP k rv)
universe e
universe e
section
open PySem PySem.W PyProof.Rows PySem.Calls PySem.Spec PySem.SeqAt
set_option backward.match.sparseCases false
abbrev bd(x:Fx):iz:=bh pw x.w
def JX(d:I)(h:cD)(E:PySem.a0)(F:MS)(r:3e2):Prop:=
 ∀(x:Fx) (J:aW) (s:ae) (Q:0e5) (EE:0e5),3e6->x.ab.bt=h->0e9->10 r->
  25 27e9
def JT(d:I)(h:cD)(E:PySem.a0)(F:MS)(r:R al):Prop:=
 ∀(x:Fx) (J:aW) (s:ae) (Q:29e1) (EE:0e5),3e6->x.ab.bt=h->0e9->64 r RB->
  25 (sU E x.ab 27e9)
section
variable{x:Fx}{A:dg}{s:ae}{EE:af->ae->Prop}
def Ly{E:0e5}{Q:0e5}(h:29 m):29 (yh vs m):=by
 unfold yh;exact 90 (eW h (λr s1 h1=>eP (vH (bH h1))) 54e5)
universe e
section
variable{d:I}{sc:cD}{F:MS}
inductive KC:PySem.i9->V->Prop
 |L:KC .L (.aa .L)
 |bp (b t):KC (.bp b) (.bp b t)
 |y (i t):KC (.y i) (.y i t)
 |ag (s):KC (.ag s) (.ag s)
 |ch (l:D be):l.U<=16777216->KC (.iQ l) (.ch l)
def aeQ(h:KC c v):43 (.rZ c k aU) 21e8:=by
 intro x J s Q EE Y b R P;show 23 (aeR ..);cases h with
 |L=>exact 273 14e9
 |bp=>exact 273 (.bp ..)
 |y=>exact λe e e e e=>50e1
 |ag=>exact λe e e e e=>P.jS R _ (.ag ..)
 |ch l a=>exact λe e e e e=>P.jS R _ (.ch _ _ a)
def hq(id:am)(k:I):al:=id==5e5&&!(id==("__debug__" :am))&&!(id==56e3)
def t5{id:am}{k:I}(h:hq id k=true):id=5e5/\(id==("__debug__" :am))=false/\(id==56e3)=false:=by
 unfold hq at h;simp only[al.lb,al.w7]at h;exact⟨jv h.1.1,h.1.2,h.2⟩
def eu(h:cD)(id:am)(k:hw):al:=match h.bq.bZ id with
 |G s=>274 s k
 |L=>false
set_option tactic.hygienic true in
theorem lY{s:cD}{id:am}{k:hw}(h:eu s id k=true){x:Fx}(a:x.ab.bt=s):39e2=G k:=by
 unfold eu at h;unfold ez.dB;rw[a];split at h
 ·rename_i b e;rw[e,fo h]
 ·cases h
def mG(l:0e1)(n w:I)(F:MS):3e2:=gN (lk l n) w λv=> 21e8
def Lz{Q:0e5}{EE:0e5}(P:10 (mG l n w F)):
  ∃v,lk l n=2e5/\187 v:=eD P λv e P=>⟨v,e,P⟩
def So{id:am}{k:I}(h:hq id k=true)(h2:146 sc id=true):43 (172 aU) (mG F.T k 1000 F):=by
 intro x J s Q EE Y a R P;show aN (Lz P) λv e P=>?_;show hT (t5 h) λe1 e2 e3=>?_;exact aM.of (qR (aea Y R e1 (lY h2 a) e P) e2)
def Sq{id:am}{k w:I}(a:hq id k=true)(h2:(eu sc id .dm||eu sc id .eG)=true):43 (172 aU) (mG F.T k w F):=by
 intro x J s Q EE Y h R P;show aN (Lz P) λv e P=>?_;show hT (t5 a) λe1 e2 e3=>?_;rcases al.tR.mp h2 with h2|h2
 ·exact aM.of (qR (aeb Y R e1 (lY h2 h) e P) e2)
 ·exact aM.of (qR (aec Y R e1 (lY h2 h) e e3 P) e2)
def yi{id:am}{k:I}(h:hq id k=true)(h2:eu sc id .ly=true):43 (172 aU) (mG gl k 112 F):=by
 intro x J s Q EE Y a R P;show aN (Lz P) λv e P=>?_;show hT (t5 h) λe1 e2 e3=>?_;exact aM.of (qR (ad9 Y R e1 (lY h2 a) e P) e2)
def aeS{A B:PySem.a0}{op:rI}{aU:dA}{fz:al}{r:3e2}{rb:MS->3e2}(k:43 A r)(v:∀aS,JX d sc B aS (rb aS)):
  43 (.Bg A op B aU) (r.aF λa F=>(rb F).aF λb F=>Ki fz op a b F):=by
 intro x J s Q EE Y e R P;show 23 (arm_eval_BinOp ..);show iJ (k x J s _ EE Y e R (P.aF λa aS u s1 u1 h i r1 m w=>?_));show iJ (dh (v aS x _ s1 _ EE Y e h (m.aF λb du m2 j u2 n p r2 q w=>?_)));exact 44 (Ly (aM.of (aeA n (h.rv p r1) r2 q)))
def aeT(s:3e2):3e2:=s.aF λv F=>gN (ll F.O v) 115 λp=> 7 (.bp (!p.1) p.2)
def aeU{A:PySem.a0}{aU:dA}{r:3e2}(m:43 A r):43 (.rY .Not A aU) (aeT r):=by
 intro x J s Q EE Y n R P;show 23 (aeV ..);show iJ (m x J s _ EE Y n R (P.aF λa aS v s1 u1 p w r1 h u=>?_));exact eD h λq e h=>44 (348 (PyProof.Rows.not_of (BO (Q:=λb s=>257 (!b) s) e r1 λk=>h.jS p k (.bp ..))))
def aeW(s:3e2):3e2:=s.aF λv F=>gI v 116 λi t=> 7 (.y (-i) t)
def aeX{A:PySem.a0}{aU:dA}{e:3e2}(r:43 A e):43 (.rY .USub A aU) (aeW e):=by
 intro x J s Q EE Y p R P;show 23 (aeV ..);show aZ (r x J s _ EE Y p R (P.aF λa aS k s1 u1 b m r1 h=>?_));exact m7 r1 h λi t tk h=>44 (348 (PyProof.Rows.neg_int (h.jS b _ (.y ..))))
def aeY{apq A B:PySem.a0}{aU:dA}{p:R al}{r rb:MS->3e2}(n:JT d sc apq F p)(k:∀aS,JX d sc A aS (r aS))(m:∀aS,JX d sc B aS (rb aS)):
  43 (.vu apq A B aU) (p.aF λc F=>cC c (r F) (rb F)):=by
 intro x J s Q EE Y h R P;show 23 (arm_eval_IfExp ..);show aZ (n x J s _ EE Y h R 56e9);cases r1;cases a
 ·exact m aS x _ s1 _ EE Y h e b
 ·exact k aS x _ s1 _ EE Y h e b
def aeZ{A:PySem.a0}{aU:dA}{h:R al}(r:JT d sc A F h):JT d sc (.rY .Not A aU) F (h.aF λb F=> 7 (!b)):=by
 intro x J s Q EE Y k R P;show 23 (arm_isTrue_UnaryOp ..);show aZ (r x J s _ EE Y k R (P.aF λa aS m s1 u1 e n r1 p=>?_));cases r1;exact bH (p.fJ e H)
def ae0{apq A B:PySem.a0}{aU:dA}{p:R al}{r rb:MS->R al}(n:JT d sc apq F p)(k:∀aS,JT d sc A aS (r aS))(m:∀aS,JT d sc B aS (rb aS)):
  JT d sc (.vu apq A B aU) F (p.aF λc F=>cC c (r F) (rb F)):=by
 intro x J s Q EE Y h R P;show 23 (arm_isTrue_IfExp ..);show aZ (n x J s _ EE Y h R 56e9);cases r1;cases a
 ·exact m aS x _ s1 _ EE Y h e b
 ·exact k aS x _ s1 _ EE Y h e b
def BY(s:3e2)(w:I):R al:=s.aF λv F=>gN (ll F.O v) w λp=>pA p.1 p.2 F
def Sr{β:Type}{C:38e5}{l:2e1}{d:β}{f:al->2e1->β}(hd:C d)(s:∀app o,C (f app o)):C (Qm l d f):=ye hd λq o=>by
 cases q with
 |b app=>exact s app o
 |_=>exact hd
def Ss{x:Fx}{J:aW}{s:ae}{b t:al}{Q:29e1}{EE:0e5}(R:0e9)(P:64 (pA b t F) RB)(k:I):Q b 24e6:=by
 revert P;cases t with
 |false=>exact λP=>P.jS R k H
 |true=>exact Sr (C:=λr=>64 r RB->_) (λP=>P.jS R k H) λapp o' P=>P.2 [] 24e6 b (by rw[D.dZ];exact(R.bG o').a1 k) (Kp.b8 ..) (oU P.1).bi
def ae1{A:PySem.a0}{r:3e2}{w:I}(m:43 A r)(h:∀ab,sU A ab (77 A)=(do let v<-77 A;kw A.aU;gq [v] (PySem.ll v))):JT d sc A F (BY r w):=by
 intro x J s Q EE Y n R P;rw[h];show iJ (m x J s _ EE Y n R (P.aF λa aS u s1 u1 p i r1 b j=>?_));exact eD b λq e b=>44 (348 (BO e r1 λk=>Ss p b k))
universe e
def ae2{α:Type}(r:3e3)(o p:D Ob):(r.ci p).ci o=r.ci (o++p):=by
 cases r with
 |aT a F q=>exact bC (R.aT a F) (D.eO ..).bi
 |a8 i F q=>exact bC (R.a8 i F) (D.eO ..).bi
 |no=>rfl
def t6{α β:Type}(r:3e3)(o:D Ob)(f:α->MS->R β):(r.ci o).aF f=(34e4).ci o:=by
 cases r with
 |aT a F p=>refine(f a F).ci (o++p)=((f a F).ci p).ci o;rw[ae2]
 |a8=>rfl
 |no=>rfl
def yj{α β γ:Type}(r:3e3)(f:α->MS->R β)(g:β->MS->R γ):(34e4).aF g=r.aF λa F=>(f a F).aF g:=by
 cases r with
 |aT a F o=>exact t6 ..
 |a8=>rfl
 |no=>rfl
def BZ{α β γ δ:Type}{x:Fx}{J:aW}{s:ae}{r:3e3}{f:α->MS->R β}{g:β->MS->R γ}{br:199 γ δ}{Q:38e3}{EE:0e5}
  (P:11 ((34e4).aF g)):11 (r.aF λa F=>(f a F).aF g):=by
 rwa[yj]at P
def PX(ih:Ih)(d:I)(s:cD)(E:PySem.a0)(e:apw):Prop:=∀F,JX d s E F (cj ih e F)
def PT(ih:Ih)(d:I)(s:cD)(E:PySem.a0)(e:apw):Prop:=∀F,JT d s E F (mw ih e F)
section
variable{ih:Ih}{d:I}{sc:cD}{F:MS}
def yk(op:pM):al:=match op with| .i3=>true| .Or=>false
def LA{α β:Type}{x:Fx}{J:aW}{s:ae}{r:3e3}{br:17e8}{Q:12e2}{EE:0e5}(P:27e7)(k:I):aH x J 24e6 r br Q EE:=by
 have h:=P.qM (s1:=24e6) (Kp.b8 J x s.M);rwa[D.dZ]at h
def LB{α β:Type}{f:al->MS->3e3}{br:17e8}{Q:12e2}{EE:0e5}(R:0e9):11 ((pA b t F).aF f)->∃bR,160 bR/\11 (f b bR):=by
 cases t with
 |false=>exact λP=>⟨F,R,P.oV⟩
 |true=>exact Sr (C:=λr:Internal.R al=>11 34e4->∃bR,160 bR/\11 (f b bR)) (λP=>⟨F,R,P.oV⟩) λapp o P=>⟨_,R.bG o,(oU P.nP.1:b=app)▸P.nP.2⟩
def ae3{aU:dA}{op:pM}:∀{p:10e4} {es:23e6},cJ (PX ih d sc) p es->∀(F:MS) (x:Fx) (J:aW) (s:ae) (Q:0e5) (EE:0e5),3e6->x.ab.bt=sc->0e9->
  10 (xC ih (yk op) es F)->25 (boolOp aU op (qS p x.ab)):=by
 intro p es apz;induction apz with
 |aR=>exact λF x J s Q EE Y r R P=>P.ak
 | @aQ o e1 _ _ h hs w=>
  intro F x J s Q EE Y r R P;cases hs with
  |aR=>exact h F x J s Q EE Y r R P
  | @aQ l e2 p es h2 hs=>
  show aZ (h F x J s _ EE Y r R (P.aF λv aS i s1 u1 u j r1 m=>?_));clear P;show 44 (90 ?_);show eD m λq e m=>aM.of (BO e r1 λk=>?_);clear e;show aN (LB u m) λdu n a=>?_;clear m;have a:=LA a k;obtain⟨b,t⟩:=q;cases op with
  |i3=>cases b with
   |true=>exact w du x _ _ Q EE Y r (n.a1 k) a
   |false=>exact bH (a.fJ (n.a1 k) r1)
  |Or=>cases b with
   |true=>exact bH (a.fJ (n.a1 k) r1)
   |false=>exact w du x _ _ Q EE Y r (n.a1 k) a
def Su(h:cJ (PX ih d sc) Es es):43 (.pM op Es aU) (xC ih (yk op) es F):=by
 intro x J s Q EE Y e R P;show 23 (ae4 ..);exact ae3 h F x J s Q EE Y e R P
def ae5:∀{r:10e4} {es:23e6},cJ (PT ih d sc) r es->∀(F:MS) (x:Fx) (J:aW) (s:ae) (Q:29e1) (EE:0e5),3e6->x.ab.bt=sc->0e9->
  64 (pD ih (yk op) es F) RB->25 (allTrue op r x.ab):=by
 intro r es apz;induction apz with
 |aR=>
  intro F x J s Q EE Y b R P;show 23 (arm_allTrue_nil ..);exact 273 (show yk op=(op== .i3) by cases op<;>rfl)
 |aQ h hs p=>
  intro F x J s Q EE Y b R P;show 23 (arm_allTrue_cons ..);show aZ (h F x J s _ EE Y b R (P.aF λv aS k s1 u1 e m r1 a=>?_));clear P;cases r1;cases op with
  |i3=>cases v with
   |true=>exact p aS x _ _ Q EE Y b e a
   |false=>exact bH (a.fJ e H)
  |Or=>cases v with
   |true=>exact bH (a.fJ e H)
   |false=>exact p aS x _ _ Q EE Y b e a
def Sv(h:cJ (PT ih d sc) Es es):JT d sc (.pM op Es aU) F (pD ih (yk op) es F):=by
 intro x J s Q EE Y e R P;show 23 (arm_isTrue_BoolOp ..);exact ae5 h F x J s Q EE Y e R P
inductive FC (ih:Ih) (d:I) (sc:cD):D jl->D PySem.a0->D (jl×apw)->Prop
 |ej {op E e}:ae6 op E=false->PX ih d sc E e->FC ih d sc [op] [E] [(op,e)]
 |aQ {op E e Sw E2 ops Es p ps}:PX ih d sc E e->FC ih d sc (Sw::ops) (E2::Es) (p::ps)->FC ih d sc (op::Sw::ops) (E::E2::Es) ((op,e)::p::ps)
def B3{Q:0e5}{EE:0e5}(Y:3e6)(R:0e9)
  (e:lQ op a b F=G (c,t)) (ra:17 a ua) (rb:17 b ub) (h:∀k,257 c 24e6):25 (jU op ua ub):=
 aM.of (ael Y R e ra rb h)
def ae7{β:Type}{C:38e5}{l:2e1}{d:β}{f:al->2e1->β}(hd:C d)(s:∀app o,C (f app o)):C (Qn l d f):=ye hd λq o=>by
 cases q with
 |q app=>exact s app o
 |_=>exact hd
def Sx{α β:Type}{f:V->MS->3e3}{br:17e8}{Q:12e2}{EE:0e5}(R:0e9):11 ((xw op a b F).aF f)->
  ∃c t t' bR,lQ op a b F=G (c,t)/\160 bR/\11 (f (.bp c t') bR):=by
 show ae7 (C:=λr:Internal.R V=>11 34e4->_) (λP=>?_) λc o P=>?_
 ·cases e:lQ op a b F with
  |L=>rw[e]at P;exact P.ak
  |G p=>rw[e]at P;exact⟨p.1,p.2,p.2,F,H,R,P.oV⟩
 ·show oE 53e2 λt e=>?_;exact⟨c,t,false,_,e,R.bG o,P.nP.2⟩
def ae8{Q:0e5}{EE:0e5}(R:0e9)(P:10 (xw op a b F)):
  ∃c t t' bR,lQ op a b F=G (c,t)/\160 bR/\10 (.Y (.bp c t') bR):=
 Sx (f:=λv F=> 21e8) R (by
  cases h:xw op a b F with
  |aT v F o=>rw[h]at P;refine 10 (.aT v F (o++[]));rw[D.dZ];exact P
  |a8=>rw[h]at P;exact P
  |no=>rw[h]at P;exact P)
def ae9{aU:dA}:∀{n:D jl} {m:10e4} {ps:D 40e2},FC ih d sc n m ps->∀(F:MS) (x:Fx) (J:aW) (s:ae) (a:V) (b:af) (Q:0e5) (EE:0e5),3e6->x.ab.bt=sc->0e9->17 a b->
  10 (pE ih a ps F)->25 (afa aU b n (yl n m (qS m x.ab))):=by
 intro n m ps apz;induction apz with
 | @ej op E e hm h=>
  intro F x J s a b Q EE Y u R o P;have apq:yl [op] [E] (qS [E] x.ab)=[27e9]:=by
   refine [LD op E 27e9]=_;unfold LD;rw[hm]
  rw[apq];refine 25 (do let rv<-gq [b] 27e9;kw aU;yh [b,rv] (jU op b rv));show 90 (h F x J s _ EE Y u R (P.aF λv aS g s1 u1 w l r1 r=>?_));show OB (ae8 w r) λc t t' bR j S r=>?_;exact 44 (Ly (B3 Y w j (R.rv l o) r1 λk=>r.jS S k (.bp ..)))
 | @aQ op E e z app n m p ps h hs apA=>
  intro F x J s a b Q EE Y u R o P;refine 25 (do
   let rv<-gq [b] 27e9
   kw aU
   let c<-gq [b,rv] (jU op b rv)
   release [b,rv] [c]
   if<-gq [c,rv] (PySem.ll c)then afa aU rv (z::n) (yl (z::n) (app::m) (qS (app::m) x.ab))else b9 c)
  show iJ (dh (h F x J s _ EE Y u R (P.aF λv aS g s1 u1 w l r1 r W=>?_)));show eD r λq j r=>44 (90 (B3 Y w j (R.rv l o) r1 λk=>?_));clear j;show eP (vH (183 (Ld ?_)));show aN (LB w r) λdu f i=>?_;clear r;have i:=LA i k;obtain⟨c,t⟩:=q;cases c with
  |false=>exact bH (i.fJ (f.a1 k) (.bp ..))
  |true=>exact apA du x _ _ v u1 Q EE Y u (f.a1 k) r1 i
def afb{A:PySem.a0}{aU:dA}{r:D jl}{e:10e4}{a:apw}{ps:D 40e2}(k:PX ih d sc A a)(h:FC ih d sc r e ps):
  43 (.vv A r e aU) (27e8 λa F=>pE ih a ps F):=by
 intro x J s Q EE Y b R P;show 23 (arm_eval_Compare ..);exact aZ (k F x J s _ EE Y b R (P.aF λv aS n s1 u1 p w r1 m=>ae9 h aS x _ s1 v u1 Q EE Y b p r1 m))
def afc(ih:Ih)(a:V)(p:40e2)(F:MS):pE ih a [p] F=(86 p.2) λb F=>xw p.1 a b F:=H
def afd(ih:Ih)(a:V)(p q:40e2)(l:D 40e2)(F:MS):pE ih a (p::q::l) F=(86 p.2) λb F=>gN (lQ p.1 a b F) 96 λr=>(pA r.1 r.2 F).aF λc F=>cC c (pE ih b (q::l) F) (7 30e9):=H
def afe:∀{n:D jl} {m:10e4} {ps:D 40e2},FC ih d sc n m ps->∀(F:MS) (x:Fx) (J:aW) (s:ae) (a:V) (r:af) (Q:29e1) (EE:0e5),3e6->x.ab.bt=sc->0e9->17 a r->
  64 (132 (pE ih a ps F).aF (gN (ll F.O v) w λp=>pA p.1 p.2 F)) RB->25 (testChain aU r n (yl n m (qS m x.ab))):=by
 intro n m ps apz;induction apz with
 | @ej op E e hm h=>
  intro F x J s a r Q EE Y i R f P;have apA:yl [op] [E] (qS [E] x.ab)=[27e9]:=by
   refine [LD op E 27e9]=_;unfold LD;rw[hm]
  rw[apA];refine 25 (do let rv<-gq [r] 27e9;kw aU;let c<-yh [r,rv] (jU op r rv);gq [c] (PySem.ll c));rw[afc]at P;show 90 (h F x J s _ EE Y i R ((BZ P).aF λv aS app s1 u1 u o r1 b=>?_));show OB (Sx u b) λc t t' bR l apq b=>?_;exact 44 (aZ (Ly (B3 Y u l (R.rv o f) r1 λk=>348 (Ld (Ss apq b k)))))
 | @aQ op E e S g n m p ps h hs W=>
  intro F x J s a r Q EE Y i R f P;refine 25 (do
   let rv<-gq [r] 27e9
   kw aU
   let c<-gq [r,rv] (jU op r rv)
   release [r,rv] [c]
   if<-gq [c,rv] (PySem.ll c)then testChain aU rv (S::n) (yl (S::n) (g::m) (qS (g::m) x.ab))else 42e5)
  rw[afd]at P;show 90 (h F x J s _ EE Y i R ((BZ P).aF λv aS app s1 u1 u o r1 b=>?_));have b:aH x (J++app) s1 (gN (lQ op a v aS) 96 λq=>(pA q.1 q.2 aS).aF λc F=>132 (cC c (pE ih v (p::ps) F) (7 30e9)).aF (gN (ll F.O v) w λp=>pA p.1 p.2 F)) RB Q EE:=by
   cases h:lQ op a v aS with
   |L=>rw[h]at b;exact b
   |G q=>rw[h]at b;exact BZ b
  show eD b λq l b=>44 (90 (B3 Y u l (R.rv o f) r1 λk=>?_));clear l;show eP (vH (183 (Ld ?_)));show aN (LB u b) λdu z j=>?_;clear b;have j:=LA j k;obtain⟨c,t⟩:=q;cases c with
  |false=>exact bH (j.oV.fJ (z.a1 k) H)
  |true=>exact W du x _ _ v u1 Q EE Y i (z.a1 k) r1 j
def aff{A:PySem.a0}{aU:dA}{w:I}{r:D jl}{e:10e4}{a:apw}{ps:D 40e2}(k:PX ih d sc A a)(h:FC ih d sc r e ps):
  JT d sc (.vv A r e aU) F (BY (27e8 λa F=>pE ih a ps F) w):=by
 intro x J s Q EE Y b R P;show 23 (arm_isTrue_Compare ..);unfold BY at P;exact aZ (k F x J s _ EE Y b R ((BZ P).aF λv aS n s1 u1 p q r1 m=>afe h aS x _ s1 v u1 Q EE Y b p r1 m))
universe e
def vI:PySem.a0->al
 | .Starred .. =>false
 |_=>true
def na(h:vI E=true):jX (E::Es) ab=(false,77 E)::jX Es ab:=by
 cases E<;>first|rfl|cases h
def pS(n:I)(J:aW)(h:ai)(vs:0e0)(us:2e4):Prop:=82 vs/\vs.U=n
def kR(ih:Ih)(d:I)(s:cD)(E:PySem.a0)(e:apw):Prop:=vI E=true/\PX ih d s E e
section
variable{ih:Ih}{d:I}{sc:cD}{F:MS}
def vJ:∀{a:10e4} {es:23e6},cJ (kR ih d sc) a es->∀(F:MS) (x:Fx) (J:aW) (s:ae) (Q:2e4->ae->Prop) (EE:0e5),3e6->x.ab.bt=sc->0e9->
  64 (kc ih es F) (pS es.U)->25 (nb (144 aU a x.ab)):=by
 intro a es apz;induction apz with
 |aR=>exact λF x J s Q EE Y b R P=>273 ⟨.aR,H⟩
 | @aQ E e a es h hs q=>
  intro F x J s Q EE Y b R P;have n:=h.1;have h:=h.2;rw[na n];refine 25 (do
   let v<-27e9
   let eS<-40e0
   return eS++(<-gq eS (nb (144 aU a x.ab))))
  show aZ (h F x J s _ EE Y b R (P.aF λv aS u s1 u1 r i r1 k=>?_));show 357 (q aS x _ s1 _ EE Y b r (k.aF λvs du m2 j us m p r2 w=>?_));exact bH (w.fJ m ⟨.aQ (r.rv p r1) r2.1,by rw[D.m6,D.m6,r2.2]⟩)
def afg{c}(h:cJ (kR ih d sc) Es es)(a:I.g4 es.U 1000=true):43 (.kh Es c aU) ((kc ih es F).aF (316 (.X vs))):=by
 intro x J s Q EE Y r R P;have n:=I.cz a;show 23 (Sy ..);show 44 (aZ (vJ h F x J s _ EE Y r R (P.aF λvs aS p s1 us e k r1 b=>?_)));show oA r1 λr1 v=>?_;have m:=iw r1;show aM.of (Sz ?_ (by refine us.gF.an<=_;rw[D.LE,f0];lia));have E:=e.ext (jW (307 us.gF)) (vG _) s1.a1;exact b.bk E.1 E.2 (.X vs _ us ⟨_,9e9,H,_,H⟩ bN (hK (jc (jW _)) r1))
def afh(h:cJ (kR ih d sc) Es es):43 (.D Es aU) ((kc ih es F).aF λvs F=>222 vs false):=by
 intro x J s Q EE Y b R P;rw[show 234 (.D Es aU)=(do kw aU;SA (<-nb (144 aU Es x.ab)))from H];show 44 (aZ (vJ h F x J s _ EE Y b R (P.aF λvs aS p s1 us e k r1 a=>?_)));show oA r1 λr1 m=>?_;show oA (BT e r1 a (308 us.gF) H 25e1 H s1.a1) λhz r=>?_;exact aM.of (Ka r (by refine us.gF.an<=_;rw[D.LE,f0];lia))
def afi(pT:PySem.a0)(o i:af):∃h,subscripted pT false o i=yh h (pj o i):=by
 cases pT with
 |r0 _ _ s=>cases s<;>exact 25e1
 |_=>exact 25e1
def SB{x:Fx}{s:ae}{EE:0e5}{vK pT:PySem.a0}{o i:af}{apq id:fS}{Q:0e5}(a:s.kH o apq)
  (hl:pn 42e9 "__getitem__" =b9 (G (.bJ id))) (hg:96 (pj o i)):96 (PyProof.Rows.SC vK pT o i):=by
 unfold PyProof.Rows.SC;show 23e7;rw[getitemInPython_of_ne a.not_modules];show bg (iP a hl 20e3);have cR:∀h,259 (yh h (pj o i)) (λr s'=>259 (afj vK o r>>=λb=>b9 r) Q EE s') EE s:=
  λh=>wpAny_operating (hV hg (λr k p=>bg (SD (bX p))) λb b x=>x)
 show 23e7;refine 259 (subscripted pT false o i) _ _ _;show oE (afi pT o i) λh e=>?_;rw[e];exact cR h
def SE{A apy:PySem.a0}{aU:dA}{p:3e2}{br:199 α af}{ri:MS->3e3}{f:V->α->MS->3e2}(n:43 A p)
  (hi:∀aS (x:Fx) (J:aW) (s:ae) (Q:0e5) (EE:0e5),3e6->x.ab.bt=sc->160 aS->11 (ri aS)->25 (234 apy))
  (hf:∀aS (x:Fx) (J:aW) (s:ae) (Q:0e5) (EE:0e5) a i k r,3e6->160 aS->17 a k->br J s.M i r->10 (f a i aS)->
   96 (PyProof.Rows.SC A apy k r)):
  43 (.qH A apy aU) (p.aF λa F=>(ri F).aF λi F=>f a i F):=by
 intro x J s Q EE Y e R P;show 23 (arm_eval_Subscript ..);show iJ (n x J s _ EE Y e R (P.aF λa aS l s1 u1 h o r1 v u=>?_));show iJ (dh (hi aS x _ s1 _ EE Y e h (v.aF λb du m2 q u2 w m r2 j u=>?_)));exact 44 (aM.of (hf du x _ q Q EE a b u1 u2 Y w (h.rv m r1) r2 j))
def DK.ex(z:DK w J h o l):o.ym/\∃es ep,o.bf= .bw es ep:=by
 rcases z with⟨_,⟨es,ep,s,hd,_⟩,_⟩|⟨_,⟨es,ep,s,hd,_⟩,_⟩<;>exact⟨s,es,ep,hd⟩
def tlO(o:aps):al:=match o with
 | .bv _ _=>false
 | .cW _ _=>false
 | .a8 _ _=>false
 |_=>true
def LF(F:MS)(a:V):Prop:=match a with
 | .X _=>ku
 | .ad _ _=>ku
 | .ch _=>ku
 | .aa u=>(vf u).iq=true
 | .Z i=>∃o,18e7=0e4/\tlO o=true
 |_=>fR
def SF(R:0e9)(q:17 a ua)(h:LF F a):∃apq id,s.kH ua apq/\pn 42e9 "__getitem__" =b9 (G (.bJ id)):=by
 cases q with
 |X l a aP r=>exact⟨_,_,r.mX,slot_tuple_getitem.bZ⟩
 |ad l t a aP r=>exact⟨_,_,r.mX,SG.bZ⟩
 |ch b tk=>exact⟨_,_,po _ _ _,FB.aeG.bZ⟩
 |aa=>
  show oE (ar.mT.mp h) λl k=>?_;(show dV (yd R (RL k) 14e9) λu v j z=>?_;subst v);clear k;rcases z with⟨_,⟨o,_,_,m,n,_⟩,_⟩|⟨_,⟨o,_,_,m,n,_⟩,_⟩<;>exact⟨_,_,⟨o,m,n.1⟩,afk.bZ⟩
 |Z i p w=>
  show aN h λo e h=>?_;have z:=42 i e w;clear e;cases o with
  |az=>exact⟨_,_,z.2.2.jT.1.iG.mX,SG.bZ⟩
  |au=>exact⟨_,_,z.2.2.jT.1.iG.mX,SG.bZ⟩
  |bw=>exact⟨_,_,⟨_,z.2.2.jT.1,z.2.2.jT.2.ex.1.1⟩,afk.bZ⟩
  |eF=>exact⟨"bytearray",_,(51 z.2.2),BA.JD.bZ⟩
  |_=>exact nF h
 |_=>exact h.ak
universe e
def JB(d:I)(h:cD)(B:11e1)(F:MS)(r:2e9):Prop:=
 ∀(x:Fx) (J:aW) (s:ae) (Q:34e5) (EE:0e5),3e6->x.ab.bt=h->x.fz=false->pU 3e0 x.A x.ab EE->0e9->64 r RF->
  25 (mh B x.ab)
def JS(d:I)(h:cD)(S:cm)(F:MS)(r:2e9):Prop:=
 ∀(x:Fx) (J:aW) (s:ae) (Q:34e5) (EE:0e5),3e6->x.ab.bt=h->x.fz=false->pU 3e0 x.A x.ab EE->0e9->64 r RF->
  25 (exec S x.ab)
def JC(d:I)(f:V)(as:0e0)(F:MS)(r:3e2):Prop:=
 ∀(x:Fx) (J:aW) (s:ae) (u:af) (us:2e4) (Q:0e5) (EE:0e5),3e6->0e9->17 f u->169 as->10 r->
  25 (aX u us)
section
variable{J:aW}{h:ai}{d9:am->ar hw}
def SH:∀{ps:D I} {us:2e4} {m:am->12e4},k∉ps->LG d9 (42e6 us) m 5e5=m 5e5
 | [],_,_,_=>rfl
 |p::ps,[],_,_=>rfl
 |p::ps,u::us,m,h=>by
  have h1:k≠p:=λe=>h (by rw[e];exact D.dQ ..);have h2:k∉ps:=λe=>h (54 e);refine LG d9 (42e6 us) _ 5e5=_;rw[SH h2];split
  ·exact d6 (λe=>h1 (r6 e))
  ·rfl
def SI:∀{ps:D I} {us:2e4} {m:am->12e4},k∉ps->LH d9 (42e6 us) m 5e5=m 5e5
 | [],_,_,_=>rfl
 |p::ps,[],_,_=>rfl
 |p::ps,u::us,m,h=>by
  have h1:k≠p:=λe=>h (by rw[e];exact D.dQ ..);have h2:k∉ps:=λe=>h (54 e);refine LH d9 (42e6 us) _ 5e5=_;rw[SI h2];split
  ·rfl
  ·exact d6 (λe=>h1 (r6 e))
def SJ:∀{ps:D I} {vs:0e0} {us:2e4} (m b:am->12e4),ps.dT->82 vs->∀k v,19 (ps.fw vs)=2e5->
  ∃u,22e2/\(d9 5e5=12e3->LG d9 (42e6 us) m 5e5=G u)/\(d9 5e5≠12e3->LH d9 (42e6 us) b 5e5=G u):=by
 intro ps;induction ps with
 |aR=>intro _ _ _ _ _ _ k v e;cases e
 |aQ p ps w=>
  intro vs us m b x r k v e;cases r with
  |aR=>cases e
  | @aQ i u0 vs us r n=>
  show oA (D.jd.mp x) λa x=>?_;rw[D.zip_cons_cons,nQ]at e;cases q:I.bY p k with
  |true=>
   rw[q]at e;cases e;have:=42e8;subst bb;show⟨u0,r,λs=>?_,λs=>?_⟩
   ·refine LG d9 (42e6 us) _ (nm p)=_;rw[SH a,eX s,eX H]
   ·refine LH d9 (42e6 us) _ (nm p)=_;rw[SI a,d6 s,eX H]
  |false=>
   rw[q]at e;exact w _ _ x n k v e
universe e
def vL:∀{lo:I} {cP:29e3},(bq.bZ n=18e8\/(cP.bZ n).iq=true)->(((t7 lo bq cP).bZ n).iq=true):=by
 induction bq with
 |aR=>exact λh=>h.ak (λh=>by cases h) (λh=>by unfold t7;exact h)
 |aQ p r x=>
  obtain⟨gf,d9⟩:=p;intro lo cP h;unfold t7;split
  ·rename_i s;show x ?_;rcases h with h|h
   ·rw[D.lB]at h;cases q:(n==gf)with
    |true=>exact .aE (by rw[D.lB,q];rfl)
    |false=>rw[q]at h;exact 25e7
   ·right;rw[D.lB];split
    ·rfl
    ·exact h
  ·rename_i s;show x ?_;rcases h with h|h
   ·rw[D.lB]at h;cases q:(n==gf)with
    |true=>rw[q]at h;cases h;exact bM aq s
    |false=>rw[q]at h;exact 25e7
   ·exact .aE h
def SK:∀{lo:I} {cP:29e3},(bq.aj (·.1)).dT->(cP.aj (·.1)).dT->(∀n,n∈bq.aj (·.1)->n∉cP.aj (·.1))->((t7 lo bq cP).aj (·.1)).dT:=by
 induction bq with
 |aR=>intro lo cP _ h _;unfold t7;exact h
 |aQ p r ih=>
  obtain⟨gf,d9⟩:=p;intro lo cP h1 h2 h3;show oA (D.jd.mp h1) λa x=>?_;unfold t7;split
  ·show ih x (D.jd.bn ⟨h3 _ (D.dQ ..),h2⟩) λn s hm=>?_;rcases D.eR.mp hm with e|e
   ·exact a (e▸s)
   ·exact h3 n (54 s) e
  ·exact ih x h2 λn s=>h3 n (54 s)
structure yn(fa:aI)(fn:Fn)(fd:jB)(B:D cm):Prop where
 Z:∀P,∃o,(fa,o)∈KL P/\o.bf= .mi fd
 dH:∀(h:ai) P,g9 h (KL P)->h.zD fd.dH fd.pc
 cX:fd.cX= .mS B
 co:fd.bt.zB=false
 gen:fd.bt.zC=false
 d9:fd.bt.d9= .jJ
 vy:fd.g8=iB
 SM:fd.rk=[]
 jN:fd.jC=mU
 bq:(fd.bt.bq.aj (·.1)).dT
 SN:∀app∈fd.bt.bq,app.2≠ .eG
 SO:fn.ps.dT
 pk:∀p∈fn.ps,fd.bt.bq.bZ (nm p)=G .cV\/fd.bt.bq.bZ (nm p)=G .dm
 cr:∀(s:ae) P,g9 s.M (KL P)->∀J vs us,cx J s.M vs us->(vs++fn.jp vs.U).U=fn.ps.U->∃B4,cx J s.M (vs++fn.jp vs.U) B4/\BindsTo s fd ⟨us,[]⟩ ((fn.ps.aj nm).fw B4)
def LI(A:253 h):h.OI:=⟨h.jG rD,.vB (Jy A),by unfold ai.jG;rw[k2 A];kernel_rfl⟩
def SP{s:29e3}(x:(s.aj (·.1)).dT){n:am}{c:aI}(h:(n,c)∈s):s.bZ n=G c:=by
 induction s with
 |aR=>cases h
 |aQ p r ih=>
  obtain⟨m,d⟩:=p;show oA (D.jd.mp x) λh1 h2=>?_;clear x;rw[D.lB];rcases D.eR.mp h with e|e
  ·cases e;simp
  ·have:n≠m:=λb=>h1 (b▸D.ox (f:=(·.1)) e);clear h1 h;have a:(n==m)=false:=sd.bn bb;rw[a];exact ih h2 e
def em(x:Fx)(ab:ez):Fx:=⟨x.w,46e9,ab,x.os,false⟩
def B5(F:MS)(rb:2e9):3e2:=rb.aF λr bR=>gA r 130 λv=> .Y v ⟨bR.O,F.T,bR.bG⟩
def aK.sR{x:Fx}{J:aW}{F:MS}{s s1:ae}(R:0e9){apt:aI}{m W:am->12e4}{ab:ez}{T:0e1}(hL:ab.cY=s.M.O.an)(xc:InCallC s ab.cY m ab.b3 W s1)
  (hf:ab.ec=31e5) (hk:ab.bt.d9= .jJ) (hA:39e9) (q:(ab.b3.aj (·.1)).dT)
  (jy:∀k v,19e1=2e5->∃u,15e7/\(33e4=12e3->m 5e5=G u)/\(33e4≠12e3->W 5e5=G u))
  (z:∀n,(37e4=18e8\/37e4=23e5)->(378 n)=true):
  aK 5e4 J (219 T) s1:=by
 have P:=xc.oY.bS;(show qf xc.oY.fE λh1 tk apw=>?_;subst apw);have hz:s.M.O.an<h1.O.an:=by
  have:=xc.oY.ns.lt;rw[hL]at bb;exact bb
 have E:=R.ext P (I.jx hz) tk;have p:=E.1;have apA:lr<=s.M.O.an:=350 (R.hJ _ 2e6) (R.m8 _ 2e6);have app:∀n c,(n,c)∈ab.b3->s.M.O.an<c:=λn c h=>hL▸xc.LJ n c h;have g:∀a,fr 5e4 a->s.M.O.an<=a:=by
  rintro a (rfl|⟨_,n,q⟩)
  ·exact 39e0
  ·exact I.jx (app n a q)
 show⟨p.d8,p.cU,p.O,p.nd,p.gy,p.up,⟨(312 xc.oY.ns),λk v a b=>?_⟩,λa w f=>31 (R.up a f) (g a w),λa w=>I.dW apA (g a w),⟨?_,q,λn q=>?_⟩,λapq n c z=>?_,?_,?_,p.dD,p.os,p.cW⟩
 ·show dV (jy k v b) λu r e apq=>?_;clear g;exact⟨u,e a,dP (jc P) r⟩
 ·show dV (jy k v b) λu r apq e=>?_;clear jy;show oE (ar.mT.mp (z _ a)) λc S=>?_;have apD:33e4≠12e3:=by
   have t:33e4=18e8\/33e4=23e5:=a;rcases t with t|t<;>rw[t]<;>decide
  show⟨c,u,S,(e apD)▸xc.dm _ c S,dP (jc P) r,λf=>?_⟩;have h1:=app _ c (nc S);exact 31 (R.up c f) (I.jx h1)
 ·have:=xc.apart;rw[D.dT,D.afl];exact bb
 ·have h1:=app n _ q;clear app;have h2:(5e4).ab.cY=s.M.O.an:=hL;rw[h2]at h1;exact 292 h1
 ·exact⟨_,xc.dm n c (SP q z)⟩
 ·(show oE hA λl d=>?_;try clear hA);clear z q;intro l' j e i;have:l'=ab::l:=by
   have:(5e4).A.dY=G (ab::l):=by refine 38e9=_;rw[d];rfl
   rw[bb]at j;cases j;rfl
  subst bb;rcases D.eR.mp i with H|i
  ·show uD xc.oY.ns λo es ep e1 e2 apq=>?_;clear xc;exact⟨hk,_,o,hf,e1,es,ep,e2⟩
  ·exact p.gz l d e i
 ·rintro a ⟨l',j,e,i,w⟩;(show oE hA λl d=>?_;try clear hA);have:l'=ab::l:=by
   have:(5e4).A.dY=G (ab::l):=by refine 38e9=_;rw[d];rfl
   rw[bb]at j;cases j;rfl
  clear j;subst bb;rcases D.eR.mp i with H|i
  ·rw[hf]at w;cases w;rw[hL];clear hL;exact⟨apA,λf=>292 (R.up _ f)⟩
  ·exact 121 ⟨l,d,e,i,w⟩
def B6(k:39e9):FA 5e4 a ↔ (ab.ec=11e3\/FA x a):=by
 (show oE k λl p=>?_;try clear k);have e:(5e4).A.dY=G (ab::l):=by refine 38e9=_;rw[p];rfl
 constructor
 ·rintro⟨l',s,v,b,r⟩;rw[e]at s;cases s;rcases D.eR.mp b with H|b
  ·exact .a4 r
  ·exact .aE ⟨l,p,v,b,r⟩
 ·rintro(h|⟨l',s,v,b,r⟩)
  ·exact⟨_,e,ab,D.dQ ..,h⟩
  ·rw[p]at s;cases s;clear s;exact⟨_,e,v,54 b,r⟩
def aK.B7{x:Fx}{J aC:aW}{F P:MS}{s s1 s':ae}(R:0e9){ab:ez}(hL:341 ab.cY)(W:ab.ec=31e5)(gJ:∀n c,(n,c)∈ab.b3->ab.cY<c)(d:39e9)
  (ie:48e5) (pV:51e0)
  (R':aK 5e4 (J++aC) P s') (K':56 J 5e4 s1.M s'.M):206 ⟨P.O,F.T,P.bG⟩/\38e6:=by
 have i:∀a,a<s.M.O.an->¬fr 5e4 a:=by
  rintro a p (rfl|⟨_,n,apw⟩)
  ·exact 31 p hL
  ·have h1:=gJ n a apw;exact 31 p (350 hL h1)
 have app:∀a,a<s.M.O.an->¬FA x a->¬FA 5e4 a:=by
  intro a p h q;rcases(B6 d).mp q with e|q
  ·rw[W]at e;cases e;exact 31 p hL
  ·exact h q
 have apv:38e6:=by
  show⟨λa o e t f g apD=>K'.bS a o (ie a o e) t (app a 9e1 f) (i a 9e1) apD,λa o e f g=>K'.js a o (ie a o e) ((B6 d).bn (.aE f)) (i a 9e1),λa o e t n=>K'.iV a o (ie a _ e) t n,λa o e=>K'.g5 a o (ie a o e),λa p=>?_⟩;cases apE:s.M.ao a with
  |L=>rfl
  |G o=>exact 224 (K'.fk a p) (ie a o apE)
 have bS:=R.eH apv;have j:∀a o,¬14e2->4e4=0e4->¬68 (J++aC):=λa o h1 h2 h3=>(jt.mp h3).ak h1 λh=>nN ((323 h) h2);have ec:∀a o,FA x a->4e4=0e4->∃o',s'.M.ao a=G o'/\o'.bf=o.bf:=by
  intro a o f e;show dV (K'.js a o (ie a o e) ((B6 d).bn (.aE f)) (i a 9e1)) λo' e1 g e2=>?_;exact⟨o',e1,e2⟩
 have dm:∀c u,s.M.pP c u->¬cy J c->s'.M.pP c u:=by
  rintro c u ⟨o,e,hd⟩ no;show⟨o,K'.bS c o (ie c o e) (Bs hd) (app c 9e1 55e3) (i c 9e1) no,hd⟩
 show⟨⟨R'.d8,R'.cU,R'.O,R'.nd,R'.gy,R'.up,⟨?_,λk v a b=>?_⟩,λa p=>(R.vE a p).ak λo e=>j a o (R.bI a p) e,R.hJ,R.b3,λz n c apA=>?_,λl S e apq=>?_,λa p=>⟨(121 p).1,(R.vF a p).ak λo e=>j a o (121 p).2 e⟩,R'.dD,R'.os,R'.cW⟩,apv⟩
 ·obtain(⟨m,⟨o,es,ep,e,hd,hs⟩,hm⟩):=R.bq.iN;have:∃o',s'.M.ao x.ab.cY=G o'/\o'.bf=o.bf:=by
   by_cases q:FA x x.ab.cY
   ·exact ec _ _ q e
   ·exact⟨o,K'.bS _ o (ie _ o e) (tL hd) (app _ 9e1 q) (i _ 9e1) (R.bI _ 2e6),H⟩
  (show aN bb λo' B A=>?_;try clear bb);show(312 ⟨o',es,ep,B,A.aV hd,hs⟩);show aN (hm k v a b) λu e1 r=>?_;exact⟨u,e1,30e4⟩
 ·obtain(⟨c,u,e1,e2,r,no⟩):=200 k v b;show aN (id e2) λo e3 g=>?_;exact⟨c,u,e1,dm c _ e2 no,30e4,j c _ no e3⟩
 ·show oE (R.hj z n c apA) λw V=>?_;exact⟨w,dm c w V (R.bI c (247 z n apA))⟩
 ·exact(R.gz l S e apq).eH λa o e1 e2=>ec a o ⟨l,S,e,apq,e1⟩ e2
structure qT(apu:aI->Prop)(h h':ai):Prop where
 an:h'.O.an=h.O.an
 fE:∀a,¬apu a->h'.ao a=h.ao a
 bf:∀a o,h.ao a=G o->∃o',h'.ao a=G o'/\o'.bj=o.bj/\o'.bf=o.bf
def qT.b8(apu:153 aI)(h:ai):qT apu h h:=⟨H,λs s=>rfl,λs o e=>⟨o,e,H,H⟩⟩
def qT.aV{apu:153 aI}(a:qT apu h h1)(b:qT apu h1 h2):qT apu h h2:=
 ⟨b.an.aV a.an,λc s=>(b.fE c s).aV (a.fE c s),λc o e=>by
  show dV (a.bf c o e) λo1 e1 c1 d1=>?_
  show dV (b.bf c o1 e1) λo2 e2 c2 x=>?_
  exact⟨o2,e2,c2.aV c1,x.aV d1⟩⟩
section
variable{apB:iz}{A:dg}{E:af->ae->Prop}
def afm{apu:153 aI}(l:D ez):∀(s:ae) (Q:17e3),(∀e∈l,r8 s.M e)->(∀e∈l,∀a,e.ec=11e3->apu a)->(∀h',qT apu s.M h'->157 ())->
  67 (LK l):=by
 induction l with
 |aR=>intro s Q _ _ h;unfold LK;exact bX (h _ (.b8 ..))
 |aQ e l j=>
  intro s Q k b h;obtain(⟨f,apt,o,e1,e2,es,n,e3⟩):=k e (D.dQ ..);unfold LK;rw[e1];show bg (rm e2 ?_);by_cases hr:((o.nB.ge 3 L).iq)=true
  ·rw[eX hr];exact bX (h _ (.b8 ..))
  ·rw[d6 hr];show bg (gt (a:=false) (by simp[behindIsImport,f]) ?_);have cR:∀v,67 (do
     eM apt λo=>{o with nB:= #[G e.dH,47 e.g8,o.nB.ge 2 L,2e5,o.nB.ge 4 L,e.mi.aj af.N,47 e.jC]++(e.b3.aj λc=>47 c.2).gF}
     LK l):=by
    intro v;have P:∀(g:aA->aA),(∀o,(g o).bj=o.bj/\(g o).bf=o.bf)->qT apu s.M (s.M.eM apt g):=by
     intro g w;have p:166 apt (s.M.eM apt g):=ai.fy.eM ..;show⟨p.1,λa d=>p.2 a (λz=>d (z▸b e (D.dQ ..) apt e1)),λa o' x=>?_⟩;by_cases q:a=apt
     ·subst q;rw[e2]at x;cases x;show⟨g o,258 e2 ?_,(w o).1,(w o).2⟩;have hd:=(w o).2;generalize g o=go at hd;obtain(⟨c1,c2,c3,c4⟩):=go;rw[e3]at hd;cases hd;rfl
     ·exact⟨o',(p.2 a q).aV x,H,H⟩
    show bg (abR e2 ?_);have u:=P (λo=>{o with nB:= #[G e.dH,47 e.g8,o.nB.ge 2 L,2e5,o.nB.ge 4 L,e.mi.aj af.N,47 e.jC]++(e.b3.aj λc=>47 c.2).gF}) λo=>15e2;show j _ Q (λi m=>(k i (54 m)).eH λa o t x=>?_) (λi m=>b i (54 m)) λh' app=>h h' (u.aV app);clear j b k;show dV (u.bf a o x) λo' f1 t f2=>?_;exact⟨o',f1,f2⟩
   cases l with
   |aR=>exact bg (wpAny_keptBack_nil λv=>cR v)
   |aQ c r=>exact bg (gt H (cR _))
def afn{Q:0e5}(r:A.dY=G (ab::l))(b:ab.ec=G apt)(Y:∀e∈ab::l,r8 s.M e)
  (h:∀h',qT (λa=>∃e∈ab::l,e.ec=11e3) s.M h'->157 (.N apt)):67 (PySem.SQ ab):=by
 unfold PySem.SQ;show bg (wpAny_frameEnvs r ?_);have hd:((ab::l).dropWhile λx=>x.ec !=ab.ec)=ab::l:=by simp[D.dropWhile]
 rw[hd];unfold frameObject;show 167 (afm (apu:=λa=>∃e∈ab::l,e.ec=11e3) _ s _ Y (λe k a p=>⟨e,k,p⟩) λh' u=>20e3);rw[b];exact bX (h h' u)
structure ExcAt(h:ai)(e:aI)(o:aA)(vs:bP af)(aD:D aI):Prop where
 jE:h.ao e=G o
 bf:o.bf= .cp vs
 an:vs.an=6
 tb:(aD=[]/\vs[1]? =G .L)\/∃tb ot pQ,aD=[tb]/\vs[1]? =G (.N tb)/\h.ao tb=G ot/\ot.bj= .aB "traceback" /\ot.bf= .cp pQ/\4<pQ.an
def SR{Q:17e3}(f:A.dY=G (ab::l))(t:ab.ec=G apt)(Y:∀v∈ab::l,r8 s.M v)
  (he:37e0=0e4) (hd:o.bf= 27e1) (hs:vs.an=6) (qU:¬∃v∈ab::l,v.ec=G e)
  (h:∀h' tb k,(∀a,a<s.M.O.an->a≠e->¬(∃v∈ab::l,v.ec=11e3)->18e4=4e4)->(∀a o,4e4=0e4->(∃v∈ab::l,v.ec=11e3)->∃o',18e4=G o'/\o'.bj=o.bj/\o'.bf=o.bf)->
   s.M.O.an<=tb->tb<h'.O.an->h'.O.an=s.M.O.an+1->43e0=G {o with bf:= .cp k}->k.an=6->k[1]? =47 tb->(∃m i,h'.ao tb=G m/\m.bj= 54e2 /\m.bf= .cp i/\4<i.an)->157 ()):
  67 (do SU (9e6) 1 (<-EntryCells.newEntry rp (<-PySem.SQ ab) .L (iC apt) .L (<-entryPlaceOf apt b))):=by
 show bg (afn f t Y λh1 u=>bg (wpAny_entryPlaceOf λp P=>?_));unfold EntryCells.newEntry newFields;show bg (qs ?_ (P.sizeOk5 _ _ _ _ _));have r:h1.ao e=0e4:=(u.fE e qU).aV he;clear he;have d:e<h1.O.an:=ai.cQ r;show u3 (104 r) hd bN ?_;have w:h1.O.an=s.M.O.an:=u.an;obtain(⟨c,di,dt,sl⟩):=o;simp only at hd;subst hd;have j:=ai.kz (aA.t8 (·.pW 1 (af.N h1.O.an))) (ai.eo {bj:= 54e2,bw:=L,bf:= .cp ([rp,af.N apt,.L,iC apt,.L]++(if p.jL then D.gi 6 af.L else p)).gF} r) cI;clear r;show h _ h1.O.an (vs.pW 1 (.N h1.O.an)) (λa S app x=>?_) (λa n g x=>?_) (I.hZ w.bi) ?_ ?_ j (by simpa using hs) (by simp[hs]) ?_
 ·rw[ai.t9 _ _ _ _ app];clear j h;cases q:s.M.ao a with
  |G n=>exact 104 ((u.fE a x).aV q)
  |L=>
   exact(ai.get?_push_ne _ _ _ bN).aV ((u.fE a x).aV q)
 ·show dV (u.bf a n g) λo' f1 f2 R=>?_;show⟨o',?_,f2,R⟩;rw[ai.t9 _ _ _ _ (λz=>qU (by subst z;exact x))];clear qU;exact 104 f1
 ·refine _<(ai.eM _ _ _).O.an;rw[(ai.fy.eM ..).1,ai.iM];exact 40e6
 ·refine(ai.eM _ _ _).O.an=_;rw[(ai.fy.eM ..).1,ai.iM];exact bC (· +1) w
 ·show⟨{bj:= 54e2,bw:=L,bf:= .cp ([rp,af.N apt,.L,iC apt,.L]++(if p.jL then D.gi 6 af.L else p)).gF},_,?_,H,H,?_⟩
  ·rw[ai.t9 _ _ _ _ (λz=>I.lN _ (z▸d))];exact 9e9
  ·simp only[D.LE,D.hM,D.m6,D.sk];split<;>simp;lia
universe e
structure sn(apu:aI->Prop)(e:aI)(o:aA)(aD:D aI)(h h':ai)(tb:aI)(so:bP af):Prop where
 fE:∀a o,h.ao a=G o->a≠e->a∉aD->¬apu a->h'.ao a=G o
 bf:∀a o,h.ao a=G o->apu a->∃o',h'.ao a=G o'/\o'.bj=o.bj/\o'.bf=o.bf
 an:h.O.an<=h'.O.an
 jE:h'.ao e=G {o with bf:= .cp so}
 six:so.an=6
 N:so[1]? =G (.N tb)
 tbo:∃ot pQ,h'.ao tb=G ot/\ot.bj= .aB "traceback" /\ot.bf= .cp pQ/\4<pQ.an
 jn:tb∈aD\/h.O.an<=tb
section
variable{apB:iz}{A:dg}{E:af->ae->Prop}
def afo{Q:17e3}(B:A.dY=G (ab::l))(R:ab.ec=G apt)(Y:∀v∈ab::l,r8 s.M v)
  (apw:ExcAt s.M e o vs aD) (hc:o.bj= 2e8)
  (h:∀h' tb u,sn (λa=>∃v∈ab::l,v.ec=11e3) e o aD s.M h' tb u->157 ()):
  67 (mR 9e6 ab):=by
 obtain(⟨k,hd,hs,apv⟩):=apw;have apE:∀a r vs,4e4=G r->r.bf= 27e1->¬∃v∈ab::l,v.ec=11e3:=by
  intro a r vs b aps apr;(show aN apr λv i hva=>?_;try clear apr);obtain(⟨_,L',o',f1,f2,es,n,apD⟩):=Y v i;rw[hva]at f1;cases f1;rw[b]at f2;cases f2;rw[aps]at apD;cases apD
 have apA:=apE e o vs k hd;unfold mR;simp only[R];obtain(⟨H,h1⟩|⟨tb,W,t,H,h1,w,S,j,apq⟩):=apv
 ·show cL (hF k hd h1 λp=>?_);show sQ aq λp p=>?_;show SR B R Y k hd hs apA λh' tb u k1 k2 d z2 app e1 e2 e3 e4=>h h' tb u ⟨λa r b g p q=>(k1 a (ai.cQ b) g q).aV b,k2,by exact I.le.nq (id (Eq.bi app)),e1,e2,e3,e4,.aE d⟩
 ·have apC:tb≠e:=λz=>by
   subst z;rw[k]at w;cases w;rw[hc]at S;cases S
  clear hc;have P:=apE tb W t w j;show cL (hF k hd h1 λp=>?_);show pb (show(af.N tb !=af.L)=true from by exact al.afp.mp (xJ H)) <|?_;show oE (⟨t[3],bP.ic (by exact I.LL apq)⟩:∃x,t[3]? =G x) λapx apF=>?_;show cL (hF w j apF λp=>?_);by_cases V:(apx==iC apt)=true
  ·show pb V <|?_;show bX (h s.M tb vs ⟨λa r b p p p=>b,λa r b p=>⟨r,b,H,H⟩,11e7,?_,hs,h1,⟨W,t,w,S,j,apq⟩,.a4 28e6⟩);clear h1;rw[k];obtain(⟨c,di,dt,sl⟩):=o;simp only at hd;subst hd;rfl
  ·show kY V <|?_;show cL (u3 w j (by exact I.LL apq) λp=>?_);clear w;have m:166 tb (374 (·.pW 3 .L)):=ai.fy.eM ..;have apu:=(m.2 e (Ne.bi apC)).aV k;clear k;show SR B R (λv i=>(Y v i).eH λa r f b=>⟨r,(m.2 a (λz=>P ⟨v,i,z▸f⟩)).aV b,H⟩) apu hd hs apA λh' t2 u k1 k2 d z2 app e1 e2 e3 e4=>h h' t2 u ⟨λa r b g hr q=>?_,λa r b q=>?_,?_,e1,e2,e3,e4,.aE ?_⟩
   ·have apz:a≠tb:=λz=>hr (D.cZ.bn z);clear apA apu h;have e5:=(m.2 a apz).aV b;exact(k1 a (ai.cQ e5) g q).aV e5
   ·exact k2 a r ((m.2 a (λz=>P (by subst z;exact q))).aV b) q
   ·have:=m.1;clear k2 k1 P;have z3':h'.O.an=(374 (·.pW 3 .L)).O.an+1:=app;clear app;lia
   ·have apy:(374 (·.pW 3 .L)).O.an<=t2:=d;clear d;have:=m.1;clear m;exact yo (id (Eq.bi bb)) apy
def afq{e:aI}{fr:ar aI}{tb:aI}{aD:11e9}{apu:153 aI}{C:aI}{Q:17e3}(apC:sn apu e o aD h0 s.M tb so)(d:o.bj= 2e8)
  (htF:¬apu tb) (h:∀h',sn apu e o aD h0 h' tb so->157 ()):67 (sp 9e6 fr):=by
 obtain(⟨k1,k2,z,e1,e2,e3,⟨l,app,k,u,v,w⟩,b⟩):=apC;have i:tb≠e:=λq=>by
  subst q;rw[e1]at k;cases k;have:o.bj= 54e2 :=u;rw[d]at bb;cases bb
 unfold sp;show cL (hF e1 H e3 λt=>?_);show pb (show(af.N tb !=af.L)=true from by exact al.afp.mp (xJ H)) <|?_;show u3 k v (by exact I.LL w) ?_;generalize(fr.ak af.L λf=>iC f)=x;have r:166 tb (374 (·.pW 3 x)):=ai.fy.eM ..;show h _ ⟨λa n m j hr p=>?_,λa n m p=>?_,?_,(r.2 e (Ne.bi i)).aV e1,e2,e3,?_,b⟩
 ·have:=k1 a n m j hr p;clear k1 e3 h;show(r.2 a λq=>?_).aV bb;subst q;rcases b with b|b
  ·exact hr b
  ·exact 31 (ai.cQ m) b
 ·show aN (k2 a n m p) λo' f1 f2=>?_;exact⟨o',(r.2 a λq=>htF (q▸p)).aV f1,f2⟩
 ·have:=r.1;exact le_of_le_of_eq z (id (Eq.bi bb))
 ·obtain(⟨c,di,dt,sl⟩):=l;clear r;simp only at v;subst v;exact⟨_,_,258 k H,u,H,by simpa using w⟩
universe e
def aK.note{x:Fx}{J:aW}{F:MS}{s:ae}{h':ai}(R:0e9)(jy:F.T=[]){i:I}{p:9e3}{C:aI}{d:0e1}(apq:J[i]? =5e1)(apF:22e1 =G (.a8 C d)){o:aA}{aD:11e9}{tb g:aI}{so:16e5}
  (hp:p.2=g::aD) (LN:s.M.ao p.1=0e4) (apC:sn (FA x) p.1 o aD s.M h' tb so):
  aK x (J.cN i (p.1,[g,tb])) F 35e9:=by
 obtain(⟨k1,k2,z,e1,e2,e3,SV,W⟩):=apC;have d3:∀a,68 (J.cN i (p.1,[g,tb]))->14e2\/s.M.O.an<=a:=by
  intro a Q;(show aN Q λq P r=>?_;try clear Q);rcases D.B8 P with P|rfl
  ·exact .a4 ⟨q,P,r⟩
  ·have hm:p∈J:=D.ja apq;show tP r ?_ ?_ ?_
   ·exact .a4 ⟨p,hm,D.dQ ..⟩
   ·exact .a4 ⟨p,hm,by unfold dU;rw[hp];simp⟩
   ·rcases W with W|W
    ·exact .a4 ⟨p,hm,by unfold dU;rw[hp];simp[W]⟩
    ·exact .aE W
 have SW:∀a,a=p.1\/a∈aD->14e2:=λa r=>⟨p,D.ja apq,by unfold dU;rw[hp];rcases r with H|r<;>simp[*]⟩;have apE:∀a o,4e4=0e4->¬14e2->¬FA x a->18e4=0e4:=λa S u no ap7=>k1 a S u (λq=>no (SW a (.a4 q))) (λq=>no (SW a (.aE q))) ap7;have tk:jr s.M h':=by
  obtain(⟨_,dx0,rest0,_,_,vs0,sl0,SX,g10,_,_,_,g50⟩):=42 i apF apq;rw[hp]at SX;(show oA (D.aQ.cF SX) λapt apy=>?_;subst apt;subst apy);show λa S u t=>k1 a S u (λq=>?_) (λq=>?_) (R.lv u (Rk t))
  ·rw[q,g10]at u;cases u;cases t
  ·rcases g50 with⟨e,_⟩|⟨tb0,ot0,tvs0,e,_,h3,h4,h5,_⟩<;>rw[e]at q
   ·exact nomatch q
   ·rw[53e0,h3]at u;cases u;unfold iu at t;rw[h4,h5]at t;exact bM t (show¬(("traceback" == "code")=true)from aq)
 have bS:f8 J (J.cN i (p.1,[g,tb])) s.M h':=by
  have nO:∀a S,4e4=G S->¬14e2->¬68 (J.cN i (p.1,[g,tb])):=λa S u no q=>(d3 a q).ak no λq=>31 (ai.cQ u) q;show⟨λa aP e=>?_,λa aP e no=>?_,λa b n e no=>⟨apE a _ e no (R.lv e λapA apA q=>by cases q),nO a _ e no⟩,λj q e=>?_,λapA apA=>jr.dH tk⟩
  ·(show gD e λS u apD n hd=>?_;try clear e);show⟨S,?_,apD,n,hd⟩;by_cases hO:14e2
   ·exact bM apD (R.By hO u _ _ hd)
   ·exact apE a S u hO 56e7
  ·(show gD e λS u apD n hd=>?_;try clear e);exact⟨⟨S,apE a S u no 56e7,apD,n,hd⟩,nO a _ u no⟩
  ·by_cases apw:i=j
   ·rw[<-apw,apq]at e;cases e;rw[<-apw];show⟨(p.1,[g,tb]),?_,H⟩;rw[D.LO (117 apq)]
   ·exact⟨q,by rw[D.afr apw];exact e,H⟩
 obtain(⟨hdl,dx',rest',es,n,vs,sl,SY,g1,g2,g3,aqR,_⟩):=42 i apF apq;rw[hp]at SY;(show oA (D.aQ.cF SY) λapt apy=>?_;subst apt;subst apy);rw[LN]at g1;cases g1;clear g1;have abr:g≠p.1:=λq=>by rw[q]at g2;rw[LN]at g2;cases g2
 clear LN;have ndp:(24e3).dT:=by
  have:=R.nd;rw[D.dT,D.yf]at bb;exact bb.1 p (D.ja apq)
 have dxr:g∉aD:=by
  have h2:(p.1::g::aD).dT:=by have h3:=ndp;unfold dU at h3;rw[hp]at h3;exact h3
  exact(D.jd.mp (D.jd.mp h2).2).1
 have dxF:¬FA x g:=λq=>(R.fx g q).2 ⟨p,D.ja apq,by unfold dU;rw[hp];simp⟩;have e4:h'.ao g=G (hI es n):=k1 g _ g2 abr dxr dxF;clear g2;(show jA SV λot pQ t1 t2 t3 t4=>?_;try clear SV);have tne:tb≠p.1:=λq=>by
  rw[q]at t1;rw[e1]at t1;cases t1;cases t2
 have tnd:tb≠g:=λq=>by
  rw[q]at t1;rw[e4]at t1;cases t1;cases t3
 have up:∀a,68 (J.cN i (p.1,[g,tb]))->a<h'.O.an:=by
  intro a r;rcases d3 a r with h|h
  ·exact I.mF (R.up a h) z
  ·show aN r λq P r=>?_;rcases D.B8 P with P|rfl
   ·exact I.mF (R.up a ⟨q,P,r⟩) z
   ·exact tP r (ai.cQ e1) (ai.cQ e4) (ai.cQ t1)
 have LP:lr<=s.M.O.an:=350 (R.hJ _ 2e6) (R.m8 _ 2e6);have apz:∀a,¬14e2->a<s.M.O.an->¬68 (J.cN i (p.1,[g,tb])):=λa h1 h2 q=>(d3 a q).ak h1 λq=>31 h2 q;have afs:∀j q,J[j]? =G q->j≠i->tb∉dU q:=by
  intro j q A apr r;rcases W with W|W
  ·exact apr (R.sg A apq r (by unfold dU;rw[hp];simp[W]))
  ·exact 31 (R.up tb ⟨q,D.ja A,r⟩) W
 have apu:∀a,a=p.1\/a=g\/a∈aD->a∈24e3:=λa h=>by unfold dU;rw[hp];rcases h with H|rfl|h<;>simp[*]
 clear hp;have dis:∀j q a,J[j]? =G q->j≠i->a∈dU (p.1,[g,tb])->a∉dU q:=by
  intro j q a A apr r;exact tP r (λP=>apr (R.sg A apq P (apu _ 2e6))) (λP=>apr (R.sg A apq P (apu _ 15e6))) (afs j q A apr)
 show⟨λq P=>?_,by rw[D.vM];exact R.cU,λj ap8 q f1 f2=>?_,?_,λa r=>(d3 a r).ak (R.gy a) (I.dW LP),up,⟨?_,λk v apA b=>?_⟩,λa r=>apz a (R.bI a r) (R.m8 a r),R.hJ,R.b3,λz n c apD=>?_,λl hl v aps=>(R.gz l hl v aps).eH λa S f u=>?_,λa r=>⟨(121 r).1,apz a (121 r).2 (R.tW a r)⟩,R.dD,R.os,tk.Y R.cW⟩
 ·have h1:=I.si.mp (D.ib.mp (BW x.w.bV) q P);clear apz up d3;exact apE _ _ (R.d8 q P) (λq=>31 h1 (R.gy _ q)) (λq=>31 h1 (R.fx _ q).1)
 ·by_cases apw:j=i
  ·rw[apw,apF]at f1;cases f1;rw[apw,D.LO (117 apq)]at f2;cases f2;exact⟨hdl,g,[tb],es,n,so,sl,H,e1,e4,xX bS g3,e2,.aE ⟨tb,ot,pQ,H,e3,t1,t2,t3,t4⟩⟩
  ·rw[D.afr (Ne.bi apw)]at f2;clear e4 e1 t2 t1 t3;show se bS (λa r S u=>k1 a S u (λz=>apw (R.sg f2 apq r (apu a (.a4 z)))) (λz=>apw (R.sg f2 apq r (apu a (78 z)))) (λz=>(121 z).2 ⟨q,D.ja f2,r⟩)) (R.O j ap8 q f1 f2)
 ·have nd:=R.nd;clear bS;rw[D.dT,D.yf]at nd⊢;show⟨λq P=>?_,?_⟩
  ·rcases D.B8 P with P|rfl
   ·exact nd.1 q P
   ·refine(dU (p.1,[g,tb])).dT;clear P;unfold dU;simp only[D.jd,D.eR,D.mn,mo,Qb,aft,D.kP,te];exact⟨⟨Ne.bi abr,Ne.bi tne⟩,Ne.bi tnd⟩
  ·have pw:=nd.2;rw[D.Sj]at pw⊢;intro a b r apv E;rw[D.vM]at r apv;rw[D.getElem_set,D.getElem_set];split
   ·rename_i h1;subst h1;rw[d6 (by exact I.ip E)];intro app apB w apx e;subst e;exact dis b _ app (D.ic apv) (by exact Ne.bi (I.ip E)) apB apx
   ·split
    ·rename_i h1 h2;subst h2;intro app apB w apx e;subst e;exact dis a _ app (D.ic r) (by exact I.ip E) apx apB
    ·exact pw a b r apv E
 ·obtain(⟨m,⟨oL,LQ,ep,f1,hd,hs⟩,_⟩):=R.bq.iN;have:∃o',h'.ao x.ab.cY=G o'/\o'.bf=oL.bf:=by
   by_cases q:FA x x.ab.cY
   ·show dV (k2 _ _ f1 q) λo' f2 apA B=>?_;exact⟨o',f2,B⟩
   ·exact⟨oL,apE _ _ f1 (R.bI _ 2e6) q,H⟩
  (show aN bb λo' f2 B=>?_;try clear bb);exact⟨m,⟨o',LQ,ep,f2,B.aV hd,hs⟩,λk v apA b=>by rw[jy]at b;cases b⟩
 ·rw[jy]at b;cases b
 ·show gd (R.hj z n c apD) λw oc f1 f2=>?_;exact⟨w,oc,apE c oc f1 (R.bI c (247 z n apD)) (R.lv f1 λapA apA q=>by rw[f2]at q;cases q),f2⟩
 ·show dV (k2 a S u ⟨l,hl,v,aps,f⟩) λo' f2 apA B=>?_;clear u;exact⟨o',f2,B⟩
def afu(p:x.A.dY=G l):FA x=λa=>∃v∈l,v.ec=11e3:=by
 funext a;apply qV;constructor
 ·intro s;obtain(⟨l',h,e,r,b⟩):=s;rw[p]at h;cases h;exact⟨e,r,b⟩
 ·exact(by intro s;(show aN s λe r b=>?_;try clear s);exact⟨l,p,e,r,b⟩)
def excAt{x:Fx}{J:aW}{F:MS}{s:ae}(R:0e9){i:I}{C:aI}{d:0e1}(a:22e1 =G (.a8 C d)):
  ∃p o vs e aD,J[i]? =5e1/\p.2=e::aD/\o.bj= 2e8/\ExcAt s.M p.1 o vs aD/\s.M.ao p.1=0e4:=by
 have b:i<J.U:=by rw[R.cU];exact(117 a)
 obtain(⟨l,e,aD,es,n,vs,sl,m,g1,g2,g3,q,r⟩):=R.O i _ J[i] a (D.ic b);show⟨J[i],_,vs,e,aD,D.ic b,m,H,⟨g1,H,q,?_⟩,g1⟩;rcases r with h|⟨tb,j,u,h1,h2,h3,k,w,v⟩
 ·exact 25e7
 ·exact .aE ⟨tb,j,u,h1,h2,h3,k,w,v⟩
def SZ{J aC:aW}{i:I}(h:J.U<=i)(q:9e3):(J++aC).cN i q=J++aC.cN (i-J.U) q:=by
 rw[D.afv _ _ h]
def afw{x:Fx}{J aC:aW}{F:MS}{s:ae}{h0 h':ai}(R:293 F s){i:I}{p:9e3}{l tb:aI}{aD:11e9}{o:aA}{c:16e5}(apv:56 J x h0 s.M)(P:J.U<=i)(j:(J++aC)[i]? =5e1)(w:p.2=l::aD)
  (apC:sn (FA x) p.1 o aD s.M h' tb c):Kp J (aC.cN (i-J.U) (p.1,[l,tb])) x h0 h':=by
 have hm:p∈aC:=by
  rw[D.lA P]at j;exact D.ja j
 have fk:∀a,a∈24e3->46e4=L:=λa k=>apv.fk a ⟨p,hm,k⟩;have v:∀a o,46e4=0e4->a≠p.1/\a∉aD:=λa o e=>by
  exact⟨λq=>(224 (fk a (q▸D.dQ ..)) e),λq=>(224 (fk a (by unfold dU;rw[w];simp[q])) e)⟩
 show⟨λa b e t f g app=>?_,λa b e f g=>?_,λa o e t n=>?_,λa o e=>?_,?_⟩
 ·show oA (v a b e) λn1 r=>?_;exact apC.fE a b (apv.bS a b e t f g app) n1 r f
 ·show dV (apv.js a b e f g) λo1 e1 c1 d1=>?_;show dV (apC.bf a o1 e1 f) λo2 e2 c2 d=>?_;exact⟨o2,e2,c2.aV c1,d.aV d1⟩
 ·have e1:=apv.iV a o e t n;show oA (v a _ e) λn1 r=>?_;exact apC.fE a _ e1 n1 r (R.lv e1 (Rk t))
 ·show oA (v a o e) λn1 r=>?_;show oE (apv.g5 a o e) λo1 e1=>?_;by_cases f:FA x a
  ·show aN (apC.bf a o1 e1 f) λo2 e2 S=>?_;exact⟨o2,e2⟩
  ·exact⟨o1,apC.fE a o1 e1 n1 r f⟩
 ·intro a u;(show aN u λq m k=>?_;try clear u);rcases D.B8 m with m|rfl
  ·exact apv.fk a ⟨q,m,k⟩
  ·show tP k ?_ ?_ ?_
   ·exact fk _ (D.dQ ..)
   ·exact fk _ (by unfold dU;rw[w];simp)
   ·rcases apC.jn with h|h
    ·exact fk _ (by unfold dU;rw[w];simp[h])
    ·cases z:h0.ao _ with
     |L=>rfl
     |G o=>
      clear m;show oE (apv.g5 _ o z) λo1 e1=>?_;exact 31 (ai.cQ e1) h
def aK.nl{x:Fx}{J:aW}{F:MS}{s:ae}(R:0e9):160 (4 F.O F.bG):=by
 show⟨R.d8,R.cU,R.O,R.nd,R.gy,R.up,⟨?_,λk v h b=>by cases b⟩,R.bI,R.hJ,R.b3,R.hj,R.gz,R.fx,R.dD,R.os,R.cW⟩;obtain⟨m,e,_⟩:=R.bq.iN;exact⟨m,e,λk v h b=>by cases b⟩
def Ta{x:Fx}{J aC:aW}{a:MS}{s':ae}{h0:ai}{i:I}{u:af}{l:D ez}{Q:17e3}{EE:0e5}{n:dg}(k:x.A.dY=G (x.ab::l))(j:n.dY=x.A.dY)(t:x.ab.ec=G x.ab.cY)
  (R':206 (4 a.O a.bG)) (K':56 J x h0 s'.M) (hx:xZ J a i) (ru:RV (J++aC) s'.M 15e9 u)
  (h:∀(h1:ai) (iU:aW) (p:9e3) (tb:aI) (s:16e5) (o:aA) (aD:11e9) (e C:aI),sn (FA x) p.1 o aD s'.M h1 tb s->o.bj= 2e8->u= 7e2->165 J iU (4 a.O a.bG) {s' with M:=h1}->Kp J iU x h0 h1->RV (J++iU) h1 15e9 u->¬FA x tb->
   (∀h2,sn (FA x) p.1 o aD s'.M h2 tb s->165 J iU (4 a.O a.bG) {s' with M:=h2}/\Kp J iU x h0 h2/\RV (J++iU) h2 15e9 u)->Q () {s' with M:=h1}):
  aY 3e0 n (mR u x.ab) Q EE s':=by
 (show sN hx λr C b=>?_;try clear hx;show oE b λd v=>?_;try clear b);(show nn (excAt R' v) λp o vs b=>?_;show uE b λe aD e1 e2 w apw f=>?_;try clear b);cases ru using mD.cE with
 |Z app e3=>
  rw[e1]at e3;cases e3;have fa:=afu k;have dJ:∀h2 tb s,sn (FA x) p.1 o aD s'.M h2 tb s->aK x (J++aC.cN (i-J.U) (p.1,[e,tb])) (4 a.O a.bG) {s' with M:=h2}/\Kp J (aC.cN (i-J.U) (p.1,[e,tb])) x h0 h2/\RV (J++aC.cN (i-J.U) (p.1,[e,tb])) h2 15e9 7e2:=by
   intro h2 tb s apC;have m:=R'.note H e1 v e2 f apC;rw[SZ r]at m;show⟨m,afw R' K' r e1 e2 apC,?_⟩;have:(J++aC.cN (i-J.U) (p.1,[e,tb]))[i]? =G (p.1,[e,tb]):=by
    rw[<-SZ r,D.LO (117 e1)]
   exact .Z i (p.1,[e,tb]) bb
  show afo (j.aV k) t (R'.gz _ k) apw w λh1 tb s apC=>?_;rw[<-fa]at apC;have z:=dJ h1 tb s apC;show h h1 _ p tb s o aD e C apC w H z.1 z.2.1 z.2.2 (λq=>?_) λh2 c=>dJ h2 tb s c;exact(z.1.fx tb q).2 ⟨(p.1,[e,tb]),D.uO _ (D.mem_iff_getElem?.bn ⟨i-J.U,by
   rw[D.LO]
   rw[D.lA r]at e1
   exact(117 e1)⟩),by simp[dU]⟩
def afx{x:Fx}{J aC:aW}{F b:MS}{s s1 s':ae}(R:0e9){ab:ez}(hL:ab.cY=s.M.O.an)(v:ab.ec=31e5)(gJ:∀n c,(n,c)∈ab.b3->ab.cY<c)(m:39e9)
  (ie:48e5) (pV:51e0) {i:I} {u:af} {EE ap9:0e5}
  (R':aK 5e4 (J++aC) (4 b.O b.bG) s') (K':56 J 5e4 s1.M s'.M) (hx:xZ J b i) (ru:RV (J++aC) s'.M 15e9 u)
  (h:∀r e,165 J r (4 b.O b.bG) e->69 r e.M->RV (J++r) e.M 15e9 u->EE u e):
  aY 3e0 46e9 (rj ab u) (λapq e=>EE u e) ap9 s':=by
 (show oE m λl k=>?_;try clear m);have t:(5e4).A.dY=G (ab::l):=by refine 38e9=_;rw[k];rfl
 unfold rj;show bg (Ta (x:=5e4) t H v R' K' hx ru λh1 iU p tb P o aD apA C apC app j g S r1 w dJ=>?_);clear ru r1;subst j;show afq (s:={s' with M:=h1}) apC app w λh2 d=>?_;show hT (dJ h2 d) λf q r2=>?_;have z:=R.B7 39e0 v gJ ⟨l,k⟩ ie pV f q;exact h iU _ z.1.nl z.2 r2
set_option backward.match.sparseCases true
def aH.LR{x:Fx}{J:aW}{F:MS}{s s1:ae}{rb:2e9}{ab:ez}{Q:0e5}{EE:0e5}
  (R:0e9) (hL:ab.cY=s.M.O.an) (hf:ab.ec=31e5) (gJ:∀n c,(n,c)∈ab.b3->ab.cY<c) (hA:39e9)
  (ie:48e5) (pV:51e0) (P:10 (B5 F rb)):
  aH 5e4 J s1 rb RF (λf s'=>Q 55e6 s') (λe s'=>aY 3e0 46e9 (rj ab e) (λz h=>EE e h) (λapp h=>EE app h) s'):=by
 have d:∀{aC:aW} {bR:MS} {s':ae},aK 5e4 (J++aC) bR s'->56 J 5e4 s1.M s'.M->206 ⟨bR.O,F.T,bR.bG⟩/\38e6:=λb p=>R.B7 39e0 hf gJ hA ie pV b p;unfold B5 at P;cases rb with
 |aT a bR ob=>
  show⟨(26e9).1,λaC s' u b p w=>?_⟩;have q:=26e3;show oA (d b p) λm k=>?_;cases w with
  |next=>exact q.2 aC s' .L m k 14e9
  |bk r=>exact q.2 aC s' _ m k r
 |a8 i bR ob=>
  exact⟨P.1,λaC s' u j b p w=>afx R hL hf gJ hA ie pV b p j w λt h m k r2=>P.2 t h u j m k r2⟩
 |no=>exact P.ak
def LT{d d0:I}{fa:aI}{fn:Fn}{fd:jB}{B:11e1}{as:0e0}{F:MS}{x:Fx}{J:aW}{s:ae}{us:2e4}{Q:0e5}{EE:0e5}(apv:yn fa fn fd B)(apu:(as++39e1).U=fn.ps.U)
  (Y:x.Ok d0) (B9:x.A.g7+1+2*d+2<DG) (Ca:x.A.jb+3+20*d+20<cLine) (R:0e9) (rs:169 as)
  (h:∀(ab:ez) (s1:ae),ab.cY=s.M.O.an->ab.ec=31e5->ab.bt=fd.bt->(∀n c,(n,c)∈ab.b3->ab.cY<c)->(∃l,x.A.dY=G l)->(∀a o,4e4=0e4->s1.M.ao a=0e4)->s.M.O.an<=s1.M.O.an->(5e4).Ok d->
   aK 5e4 J ⟨F.O,fn.ps.fw (as++39e1),F.bG⟩ s1->(ab.dH=fd.dH/\ab.pv=fd.pc++ ".<locals>.")->
   345 (mh B ab) (λf s'=>Q 55e6 s') (λe s'=>aY 3e0 46e9 (rj ab e) (λg m=>EE e m) (λW m=>EE W m) s') s1):
  25 (aX (.N fa) us):=by
 show aN (apv.Z x.w.bV) λo hm hd=>?_;show aN (apv.cr s x.w.bV R.d8 J as us rs apu) λapw apq E=>?_;show aN Y.dY λl t apx=>?_;have apz:=iw apq;have apA:∀app∈(fn.ps.aj nm).fw apw,app.1∈fn.ps.aj nm:=λapp z=>(D.of_mem_zip z).1;show rh (OH (cX:=B) bN (R.d8 _ hm) hd apv.co apv.gen apv.cX (apv.dH _ _ R.d8) (E _ _ _ _ ?_));rw[apv.SM];show afy apv.d9 (λapp z=>?_) λab b s1 xc=>?_
 ·show aN (D.sr.mp (apA app z)) λp i e=>?_;rw[<-e];rcases apv.pk p i with h|h
  ·exact 25e7
  ·exact .aE ⟨h,vL 25e7⟩
 have hL:ab.cY=s.M.O.an:=bC (·.cY) b;have u:ab.ec=31e5:=(bC (·.ec) b).aV (bC (G ·.cY) b).bi;have r:ab.bt=fd.bt:=bC (·.bt) b;have w:ab.b3=t7 (180 1) fd.bt.bq []:=bC (·.b3) b;have apr:ab.g8=iB:=(bC (·.g8) b).aV apv.vy;have apE:ab.jC=mU:=(bC (·.jC) b).aV apv.jN;have gJ:∀n c,(n,c)∈ab.b3->ab.cY<c:=λn c h=>xc.LJ n c h;have P:=xc.oY.bS;have A:s.M.O.an<=s1.M.O.an:=by
  have:=xc.oY.ns.lt;rw[hL]at bb;exact I.jx bb
 have j:∀n,37e4=fd.bt.bq.bZ n:=λn=>by unfold ez.dB;rw[r]
 have S:∀n,37e4≠23e5:=λn h=>by
  rw[j]at h;exact apv.SN _ (nc h) H
 show⟨LI (λp i=>P _ _ (R.d8 p i)),OF ?_⟩;have C:=R.sR (apt:=0) (T:=fn.ps.fw (as++39e1)) hL xc u (by rw[r];exact apv.d9) ⟨l,t⟩ (by rw[w];exact SK apv.bq D.kP λg g h=>nomatch h)
  (λk v e=>SJ _ _ apv.SO apq k v e) (λn h=>by
   rcases h with h|h
   ·rw[w];rw[j]at h;exact vL 25e7
   ·exact bM h (S n))
 have apD:(5e4).Ok d:=by
  show⟨by refine ab.bt.d9=_;rw[r];exact apv.d9,apr,apE,λn h=>?_,by refine x.A.g7+1+_+_<_;exact I.LV B9,by refine x.A.jb+3+_+_<_;exact I.LV Ca,Y.e8,Y.j5,⟨ab::l,by refine 38e9=_;rw[t];rfl,λg=>⟨l,H,u⟩⟩,λq=>nF q⟩;rcases h with h|h
  ·refine(378 n)=true;have h':37e4=18e8:=h;rw[w];rw[j]at h';exact vL (.a4 h')
  ·exact bM h (S n)
 exact h ab s1 hL u r gJ ⟨l,t⟩ P A apD C ⟨bC (·.dH) b,bC (·.pv) b⟩
def afz{d:I}{fa:aI}{fn:Fn}{fd:jB}{B:11e1}{as:0e0}{F:MS}{rb:2e9}(apv:yn fa fn fd B)(m:(as++39e1).U=fn.ps.U)
  (aqa:JB d fd.bt B ⟨F.O,fn.ps.fw (as++39e1),F.bG⟩ rb):JC (d+1) (5 fa) as F (B5 F rb):=by
 intro x J s u us Q EE Y R q w P;cases q;have l:=Y.g7;have i:=Y.jb;show LT (d:=d) apv m Y bN bN R w λab s1 hL k p gJ r b n v a j=>?_;exact eW (aqa 5e4 J s1 _ _ v p H pU.rj a (aH.LR R hL k gJ r b n P)) (λf s' h=>h) (λe s' h=>h)
universe e
section
open PySem PySem.W PyProof.Rows PySem.Calls PySem.Spec PySem.SeqAt
open Builtin hiding id
set_option backward.match.sparseCases false
def Tb{α:Type}{l:34e6}{n:I}{c:α}:l.bZ n=G c->(n,c)∈l:=by
 induction l with
 |aR=>intro h;cases h
 |aQ p r x=>
  obtain⟨k,v⟩:=p;intro h;rw[D.lB]at h;cases s:n==k with
  |true=>rw[s]at h;cases h;rw[AB.mp s];exact D.dQ
  |false=>rw[s]at h;exact 54 (x h)
def st{h:ai}{P:ay}(A:253 h):dR.In 8e0 h:=λa o e=>A _ (Tb e)
section
variable{bc:gR}{w:eA}{A:dg}{E:af->ae->Prop}{s:ae}
def Tc{Q Q₁:0e5}(hd:∃oc n cd sl,s.M.ao C=G ⟨oc,n,.bj cd,sl⟩)
  (LX:e6 6e2 s.M (Cb 2e8 "__call__") (G 55e9)) (LY:e6 6e2 s.M (su 2e8 46e7) true)
  (LZ:e6 6e2 s.M (Ay 2e8) qt) (qU:qt.jL=false) (L0:e6 6e2 s.M (Bind.madeBy 2e8) (G newId))
  (JN:uX 6e2 48e6 (.aX (.bJ newId) ⟨2e8::us,[]⟩) (uY Q₁ E) s)
  (JO:∀Z x,Q₁ Z x->272 w 48e6 (su Z 2e8) (λb s'=>b=true/\s'=x) E x/\
   272 w 48e6 (Cb Z "__init__") (λr s'=>r=47 jI/\s'=x) E x/\
   272 w 48e6 (bindSpecial (.N jI) Z) (λr s'=>r=(.N jI,[Z])/\s'=x) E x/\
   134 48e6 (aX (.N jI) (Z::us)) (λr s'=>r= .L/\Q Z s') E x):
  134 A (aX 2e8 us) Q E s:=by
 (show nn hd λoc n cd v=>?_;try clear hd;show oE v λsl i=>?_;try clear v);show rh (mf H ?_);refine aM _ _ (sT 2e8 _) _ _ _;show aM.of ?_;show nd_load i ?_;refine aY _ _ (sT.viaDunder 2e8 _) _ _ _;unfold sT.viaDunder;show cL (LX.eS λh=>?_);dsimp only;rw[tc_bind];show bg (291 20e3);show bX (a:=PySem.ky.mg (.aX 55e9 ⟨2e8::us,[]⟩)) (i3.nq H ?_);show mf H ?_;refine aM _ _ (do w6 "type.__call__" ⟨2e8::us,[]⟩;mg (384 us)) _ _ _;show eP ?_;generalize k: "type.__call__" =apq;show Td (by rw[<-k];exact tc_kind) (by rw[<-k];exact tc_split) LY (by rw[<-k];exact tc_args _ _ _) (bH (i3.nq (fQ.Pz _ (by rw[<-k];decide+cn)) ?_));subst k;show JL entry_typeCall 10e1 ?_;unfold Builtin.«type.__call__»;show me (by exact al.lK) λh h=>?_;show fe (LZ.eS λh=>?_);show uG (by rw[qU];decide) <|?_;show fe (L0.eS λh=>?_);show 29e2;show 183 (JP (abX JN λr x hr=>?_));cases r with
 |dI e=>exact hr
 |Y fl=>
  cases fl with
  |bk Z=>
   show lG (JO _ _ hr) λh1 h2 h3 u=>?_;show 147 h1 (λb s' e=>?_) 54e7;clear h1;(show oA e λp m=>?_;try clear e;subst p;subst m);show uG aq <|?_;show 90 ?_;unfold Ax;show 147 h2 (λr q e=>?_) 54e7;clear h2;(show oA e λp m=>?_;try clear e;subst p;subst m);show dh (147 h3 (λr q e=>?_) 54e7);clear h3;(show oA e λp m=>?_;try clear e;subst p;subst m);show aZ (eW u (λr q e=>?_) 54e7);(show oA e λp j=>?_;try clear e;subst p);exact bH (bH j)
  |_=>exact hr.ak
universe e
def Fx.wA(x:Fx)(A:dg):Fx:=⟨x.w,A,x.ab,x.os,x.fz⟩
def L1{x:Fx}{A:dg}(h:A.dY=x.A.dY):FA (x.wA A)=FA x:=by
 funext a;unfold FA Fx.wA;rw[h]
def aK.wA{x:Fx}{A:dg}(h:A.dY=x.A.dY){J:aW}{F:MS}{s:ae}:aK (x.wA A) J F s ↔ 0e9:=by
 have r:=L1 h;constructor
 ·intro R;exact⟨R.d8,R.cU,R.O,R.nd,R.gy,R.up,⟨R.bq.iN,R.bq.eU⟩,R.bI,R.hJ,R.b3,R.hj,λl e=>R.gz l (h.aV e),λa b=>121 (r▸b),R.dD,R.os,R.cW⟩
 ·intro R;exact⟨R.d8,R.cU,R.O,R.nd,R.gy,R.up,⟨R.bq.iN,R.bq.eU⟩,R.bI,R.hJ,R.b3,R.hj,λl e=>R.gz l (h.bi.aV e),λa b=>121 (r▸b),R.dD,R.os,R.cW⟩
def Kp.wA{x:Fx}{A:dg}(h:A.dY=x.A.dY){J aC:aW}{r h2:ai}:56 J (x.wA A) r h2 ↔ 56 J x r h2:=by
 have s:=L1 h;constructor
 ·intro apv;exact⟨λa o e t f g b=>apv.bS a o e t (by rw[s];exact f) g b,λa o e f g=>apv.js a o e (by rw[s];exact f) g,apv.iV,apv.g5,apv.fk⟩
 ·intro apv;exact⟨λa o e t f g b=>apv.bS a o e t (by rw[<-s];exact f) g b,λa o e f g=>apv.js a o e (by rw[<-s];exact f) g,apv.iV,apv.g5,apv.fk⟩
def aH.wA{α β:Type}{x:Fx}{A:dg}(h:A.dY=x.A.dY){J:aW}{s:ae}{r:3e3}{br:17e8}{Q:12e2}{EE:0e5}(P:27e7):aH (x.wA A) J s r br Q EE:=by
 cases r with
 |aT a F ob=>exact⟨P.1,λaC s' u R apv r=>P.2 aC s' u ((aK.wA h).mp R) ((Kp.wA h).mp apv) r⟩
 |a8 i F ob=>exact⟨P.1,λaC s' u e R apv r=>P.2 aC s' u e ((aK.wA h).mp R) ((Kp.wA h).mp apv) r⟩
 |no=>exact P.ak
structure Te(C jI:aI):Prop where
 Z:∀P,∃oc od cd sl,(C,(⟨oc,od,.bj cd,sl⟩:aA))∈KL P
 makes:∀P,Cc (KL P) C=true
 L2:∀P,iH (KL P) (.N C) "__init__" =G (G (.N jI))
 fn:∀P,yp (KL P) (.N jI)=G (.aB "function")
def afA(C:aI)(k:aps)(F:MS)(f:V->MS->3e2):3e2:=(F.jn k).aF λo F=>(f o F).aF λa F=>gB (ty a) 151 (7 o)
def nT{A:dg}{C:aI}{us:2e4}:48e6={A with g7:=A.g7+1,jb:=A.jb+1}:=by
 obtain(⟨a,b,c,d,e⟩):=A;refine(⟨a,b+(fQ.bJ "type.__call__" ⟨.N C::us,[]⟩).weight,pushEnvs (fQ.bJ "type.__call__" ⟨.N C::us,[]⟩).envs c,pushGuards (fQ.bJ "type.__call__" ⟨.N C::us,[]⟩).j5 d,e+(fQ.bJ "type.__call__" ⟨.N C::us,[]⟩).cUnits⟩:dg)=_;have e1:(fQ.bJ "type.__call__" ⟨2e8::us,[]⟩).weight=1:=H;have e2:(fQ.bJ "type.__call__" ⟨2e8::us,[]⟩).cUnits=1:=H;have e3:(fQ.bJ "type.__call__" ⟨2e8::us,[]⟩).envs=[]:=H;have e4:(fQ.bJ "type.__call__" ⟨2e8::us,[]⟩).j5=[]:=by
  unfold fQ.j5;exact d6 (show¬(Pu.hU "type.__call__")=true by decide+cn)
 rw[e1,e2,e3,e4,pushEnvs_eq,pushGuards_eq];cases c<;>cases d<;>rfl
def Tf{d:I}{C jI:aI}{as:0e0}{F:MS}{f:V->MS->3e2}(apv:Te C jI)(E:∀o aS,JC d (5 jI) (o::as) aS (f o aS)):
  JC (d+1) (5 C) as F (afA C (113 []) F f):=by
 intro x J s u us Q EE Y R S apz P;cases S;have apw:=st R.d8;have apD:=makes_of (apB:=3e0) apw (apv.makes x.w.bV);obtain⟨cd,n⟩:∃cd,e6 (bd x) s.M (Ay (.N C)) cd/\cd.jL=false:=by
  obtain(⟨⟨oc,app,cd,sl,m,e1,e2,e4⟩,_⟩):=apD;exact⟨cd.qt,((e6.ld (vg:=L) m).iX .oZ).iX .oZ,e4⟩
 have i:=Cd (apB:=3e0) apw (apv.L2 x.w.bV);have B:=apD;obtain(⟨⟨oc,app,apt,sl,m,_⟩,made,Ce,oC,jY,aX,typ⟩):=B;have h:(x.A.hD (384 us)).dY=x.A.dY:=by rw[nT]
 show Tc (Q₁:=λZ w=>Z= 24e0/\w={s with M:=35e0 28e8}) ⟨_,_,_,_,m⟩ aX typ n.1 n.2 made ?_ ?_ (jI:=jI)
 ·exact new_K apD i 2e6 15e2
 ·rintro Z w ⟨H,H⟩;have k:∀b o,8e8=0e4->(35e0 28e8).ao b=0e4:=λb o e=>299 e;have q:(35e0 28e8).ao (180 1)=G 28e8:=by
   have:=ai.fF (s.M.b6 nU) (o:=28e8) H;rwa[ai.iM]at bb
  have z:(35e0 28e8).ao s.M.O.an=G nU:=104 9e9;have t1:171 (35e0 28e8) (pX 24e0) 2e8:=(e6.ld q).iX .oZ;have W:dR.In 36e4 (35e0 28e8):=apw.eH k;have nH:171 (35e0 28e8) (su 24e0 2e8) true:=t1.iX (f:=λt=>lL t 2e8) (oC.eH k);show⟨nH.eS 15e2,(show 171 (35e0 28e8) (Cb 24e0 "__init__") (47 jI)from t1.iX (f:=λt=>pn t "__init__") (i.eH k)).eS 15e2,(bind_fn W _ (apv.fn x.w.bV)).eS 15e2,?_⟩;have apC:=R.Li (p:=(s.M.O.an+1,39e8)) (o:= 113 []) (h':=35e0 28e8) k (by rw[ai.iM,ai.iM];lia)
   (λa apx=>by rw[ai.iM,ai.iM];exact Bx apx ⟨37e9,40e6⟩ ⟨11e7,I.yq 40e6 40e6⟩) (by simp[dU]) R.m8
   ⟨by simp,s.M.O.an,[],0,#[],H,q,z,.aR⟩ s.a1
  have apq:=P.oV.qM (s1:={s with M:=35e0 28e8}) apC.2;have v:RV (J++[(s.M.O.an+1,39e8)]) (35e0 28e8) (.Z F.O.U) 24e0:=
   .Z _ (s.M.O.an+1,39e8) (by rw[<-R.cU,28e5,I.jj];rfl)
  have apE:(380 us).Ok d:=by
   obtain(⟨o1,o2,apu,o4,aps,apy,o7,apr,apA,A⟩):=Y;show⟨o1,o2,apu,o4,?_,?_,?_,?_,?_,A⟩
   ·refine(31e1).g7+_+_<_;rw[nT];refine x.A.g7+1+_+_<_;lia
   ·refine(31e1).jb+_+_<_;rw[nT];refine x.A.jb+1+_+_<_;lia
   ·refine(31e1).e8=_;rw[nT];exact o7
   ·refine(31e1).j5=_;rw[nT];exact apr
   ·refine∃l,(31e1).dY=_/\_;rw[h];exact apA
  show E (.Z F.O.U) _ (x.wA _) _ _ _ _ _ EE apE ((aK.wA h).bn apC.1) 14e9 (.aQ v (R.Rp apC.2 apz)) (aH.wA h (apq.aF λa du m2 apF u2 g c r2 r=>?_));show fU r λj r=>?_;exact⟨jv ((BL r2).aV j),r.fJ g (apC.1.rv c v)⟩
structure vN(C:aI):Prop where
 cd:∀P,∃cd,uc (KL P) C=G cd/\cd.yr=true
 ga:∀P,iH (KL P) (.N C) "__getattribute__" =G (G (.bJ "object.__getattribute__"))
 gx:∀P,iH (KL P) (.N C) "__getattr__" =G L
 sa:∀P,iH (KL P) (.N C) "__setattr__" =G (G (.bJ "object.__setattr__"))
 aqb:∀P,Th (KL P) C=true
 kb:∀P n,kb C n=true->iH (KL P) (.N C) (nm n)=G L
def Ti:(af.ag 5e5 tk).pY 4e6=I.bY k n:=by
 refine(5e5==4e6)=_;cases q:I.bY k n with
 |true=>rw[42e8];exact vO _
 |false=>
  apply sd.bn;intro e;have:=r6 e;subst bb;rw[I.qJ]at q;cases q
def afB:∀{d:0e1} {es:26e2},lu J h d es->match lk d n with
  |G v=>∃e,es.nv (·.cR.pY (4e6))=G e/\RV J h v e.oS
  |L=>es.nv (·.cR.pY (4e6))=L
 :=by
 intro d es apz;induction apz with
 |aR=>rfl
 | @aQ p e d es s a x=>
  rw[nQ,D.find?_cons,s.1.jT,Ti];cases q:I.bY p.1 n with
  |true=>exact⟨e,H,s.2⟩
  |false=>exact x
def Tj:∀{d:0e1} {es:26e2},lu J h d es->es.fN (·.ys)=false
 :=by
 intro d es apz
 induction apz with
 |aR=>rfl
 |aQ s e x=>
  rw[D.any_cons,x];unfold iO.ys;rw[s.1.jT];rfl
def L3(r:lu J h d es):match lk d n with
  |G v=>∃u,L4 4e6 (hI es m)=G (G u)/\22e2
  |L=>L4 4e6 (hI es m)=G L:=by
 have z:=afB (n:=n) r;have app:=Tj r;unfold L4;refine match lk d n with
  |G v=>∃u,(match es.gF.f3.nv (·.cR.pY (4e6))with
   |G e=>G (G e.oS)
   |L=>if es.gF.f3.fN (·.ys)then L else G L)=G (G u)/\22e2
  |L=>(match es.gF.f3.nv (·.cR.pY (4e6))with
   |G e=>G (G e.oS)
   |L=>if es.gF.f3.fN (·.ys)then L else G L)=G L
 have el:es.gF.f3=es:=by simp
 rw[el];cases q:lk d n with
 |G v=>
  rw[q]at z;(show aN z λe s hr=>?_;try clear z);rw[s];exact⟨e.oS,H,hr⟩
 |L=>
  rw[q]at z;dsimp only at z⊢;rw[z,app];rfl
def Tl{x:Fx}{J:aW}{F:MS}{s:ae}(R:0e9){i:I}{p:9e3}{C:aI}{d:0e1}(k:J[i]? =5e1)(r:22e1 =G (113 d)):
  ∃e h es n,p.2=[h]/\L5 s.M p.1 e C (G (hI es n))/\lu J s.M d es/\e.bw=G h/\s.M.ao h=G (hI es n)/\d.U<=1000/\e.bf= .ti/\s.M.ao p.1=G e:=by
 obtain(⟨a,h,es,n,sl,b,g1,g2,g3⟩):=42 i r k;exact⟨_,h,es,n,b,⟨g1,H,H,g2⟩,g3,H,g2,a,H,g1⟩
def afC(r:22e2)(s:Qw v=true):handedIn u=true:=by
 cases r with
 |aa w=>cases w<;>first|rfl|exact nF s
 |_=>rfl
def Tm{x:Fx}{J:aW}{F:MS}{s:ae}{Q:0e5}{EE:0e5}{e:al}(R:0e9){i n:I}{p:9e3}{C:aI}{d:0e1}(apv:vN C)(j:J[i]? =5e1)(c:22e1 =G (113 d))(w:kb C n=true)
  (P:10 (Km (lk d n) F)):96 (Cf 7e2 4e6 e):=by
 (show qg (Tl R j c) λt apq es m g apy r h=>?_;show lG h λhd apA app S=>?_;try clear h);have apw:=st R.d8;show aN (apv.cd x.w.bV) λcd l o=>?_;have f:=apv.kb x.w.bV n w;have z:=L3 (m:=m) (n:=n) r;show eD P λv q P=>fU P λb P=>?_;rw[q]at z;(show aN z λu k a=>?_;try clear z);show get_value apw apy (apv.ga _) ?_ (afC a b) (P.jS R _ a);unfold Tn;rw[l,ar.yg,f,ar.yg];refine(W.L6 cd (G (hI es m)) 4e6).cr _=_;unfold W.L6;rw[o,eX H];dsimp only;rw[k];rfl
universe e
section
open PySem PySem.W PyProof.Rows PySem.Calls PySem.Spec PySem.SeqAt
open Builtin hiding id
open Builtin.ObjectAttr Builtin.Getset_descriptor
set_option backward.match.sparseCases false
def afD{α:Type}(d:34e6)(n:I)(v:α):(fv d n v).U<=d.U+1:=by
 induction d with
 |aR=>exact 11e7
 |aQ p d s=>
  rw[BK];cases I.bY p.1 n with
  |true=>exact 37e9
  |false=>exact I.KZ s
def pZ(gf:am)(hs:K)(cR v:af)(es:26e2):26e2:=match es.L7 (·.cR.pY gf)with
  |G i=>es.modify i λe=>{e with oS:=v}
  |L=>es++[⟨hs,cR,v⟩]
def afE:pZ gf hs cR v (e::es)=match e.cR.pY gf with
  |true=>{e with oS:=v}::es
  |false=>e::pZ gf hs cR v es:=by
 unfold pZ;rw[D.afF];cases q:e.cR.pY gf with
 |true=>simp
 |false=>
  simp only[al.zH,zI];cases z:D.L7 (λx=>x.cR.pY gf) es<;>simp
def afG(r:22e2)(apz:lu J h d es):lu J h (fv d n v) (pZ 4e6 hs (140 tk) u es):=by
 induction apz with
 |aR=>exact 265 ⟨25e1,r⟩
 | @aQ p e d es s x a=>
  rw[afE,s.1.jT,Ti];rw[BK];cases q:I.bY p.1 n with
  |true=>exact .aQ ⟨25e1,r⟩ x
  |false=>exact .aQ s a
def To:∃m',aA.yt gf hs cR v (hI es m)=hI (pZ gf hs cR v es) m':=by
 rw[aA.putName_eq];refine∃m',aA.afH gf hs cR v ⟨_,_,.bw es.gF m,_⟩=_;unfold aA.afH pZ;dsimp only;rw[D.findIdx?_toArray];cases z:D.L7 (λx=>x.cR.pY gf) es with
 |L=>exact⟨m+1,by simp[hI]⟩
 |G i=>exact⟨m,by simp[hI]⟩
def afI{x:Fx}{s:ae}{A:dg}{i C e:aI}{n:I}{tk:Tok}{es:26e2}{m:I}{u:af}{b:al}{cd:ClassData}{dd:uW}{sl}{Q:137 ky}{EE:0e5}(apw:dR.In 36e4 s.M)
  (hx:s.M.ao i=G ⟨2e8,G e,dd,sl⟩) (L8:37e0=G (hI es m)) (hc:uc 36e4 C=G cd) (hd:cd.yr=true) (hn:es.fN (·.ys)=false) (hl:es.U<=1000)
  (h:∀(hs:K) (m':I),Q (.kx (.bk .L)) {s with M:=s.M.eM e (aA.yt 4e6 hs (140 s.a1) u),a1:=s.a1+1}):
  aY 3e0 A (afJ (.N i) 2e8 (140 tk) 4e6 u b) Q EE s:=by
 show bg (bX (167 (afK hx (bg ((looks_clsIn apw hc).eS ?_)))));rw[hd];show bX (a:=G e) (bg (bX 23e7));unfold nsSet;show 167 (acp (291 (Tp (bg (afK L8 ?_)))));have c:(!es.gF.fN (·.cR.pY (4e6))&&es.gF.fN (·.ys))=false:=by
  rw[<-bP.any_toList,<-bP.any_toList];simp[hn]
 unfold hI;dsimp only;rw[aRefKeyMayBeTheName_at,c];show wpAny_updatePart L8 ?_;show oE (To (gf:=4e6) (hs:=42e1) (cR:= 140 s.a1) (v:=u) (es:=es) (m:=m)) λm' r=>?_;have p:(s.M.eM e (aA.yt 4e6 42e1 (140 s.a1) u)).ao e=G (hI (pZ 4e6 42e1 (140 s.a1) u es) m'):=by
  rw[<-r];exact 258 L8 (by rw[r];rfl)
 have k:(pZ 4e6 42e1 (140 s.a1) u es).U<=es.U+1:=by
  unfold pZ;split<;>simp
 show bg (abS p (pastItsLine_dict (by rw[D.LE,f0];lia)) ?_);exact bX (h _ m')
def RU(_:aW)(_:ai)(_:ey)(_:ey):Prop:=ku
def afL{apv:dR}{C:aI}{gf:am}(h:iH apv 2e8 gf=G L):takerIn apv C gf=G L:=by
 unfold takerIn;rw[h];rfl
def afM(k:0e1->aps)(C n:I)(d:0e1)(v:V)(i:I)(F:MS):26e1:=gB (I.g4 d.U 900&&kb C n) 59 (161 () i (k (fv d n v)))
def afN{x:Fx}{J:aW}{F:MS}{s:ae}{Q:17e3}{EE:0e5}(R:0e9){i n:I}{p:9e3}{C:aI}{d:0e1}{v:V}{u:af}(apv:vN C)(l:J[i]? =5e1)(S:22e1 =G (113 d))
  (r:15e7) (P:203 (afM (.bv C) C n d v i F)):96 (Tq 7e2 4e6 u):=by
 show fU P λw P=>?_
 ·show oA (al.mB.mp w) λhd w=>?_;have hd:=I.cz hd;obtain(⟨f,h,es,m,sl,j,g1,g2,g3⟩):=42 i S l;have apy:L5 s.M p.1 _ C (G (hI es m)):=⟨g1,H,H,g2⟩;have apw:=st R.d8;show aN (apv.cd x.w.bV) λcd z app=>?_;have apq:=apv.kb x.w.bV n w;have t:=g3.cU;show set_plain apw apy (apv.sa _) ?_;show osa_open (s:=42e3) apw apy (apv.aqb _) (afL apq) λb=>?_;show afI (s:=42e3) apw g1 g2 z app (Tj g3) (by exact yo t f) λhs m'=>?_;show oE (To (gf:=4e6) (hs:=hs) (cR:= 140 (s.a1+1)) (v:=u) (es:=es) (m:=m)) λm' c=>?_;have apA:=R.m9 (o':= 113 (fv d n v)) (a:=h) l (by unfold dU;rw[j];simp) (ai.fy.eM ..) (λq o=>by rw[g2]at o;cases o;rfl) (h':=s.M.eM h (aA.yt 4e6 hs (140 (s.a1+1)) u)) (λk=>?_) (s.a1+1+1)
  ·exact 266 d2
  ·show⟨?_,h,pZ 4e6 hs (140 (s.a1+1)) u es,m',sl,j,?_,?_,afG (dP k r) (xX k g3)⟩
   ·have:=afD d n v;lia
   ·have g:p.1≠h:=by
     have:=R.nd;have e:=(D.yf.mp bb).1 p (D.ja l);unfold dU at e;rw[j]at e;exact(D.L9.mp e).1 h (D.dQ ..)
    exact((ai.fy.eM ..).2 _ g).aV g1
   ·rw[<-c];exact 258 g2 (by rw[c];rfl)
universe e
section
open PySem PySem.W PyProof.Rows PySem.Calls PySem.Spec PySem.SeqAt
open Builtin hiding id
set_option backward.match.sparseCases false
def afO{apB:iz}{A:dg}{E:0e5}{s:ae}{f:af}{e:D (al×b5 af)}{Q:137 Args}(b:e.fN (·.1)=false)
  (h:108 (nb e) (λvs s'=>Q (61 vs) s') E s):29 (evalArgs f true e []):=by
 unfold evalArgs;match e,b with
 | [],_=>
  refine 29 (nb []>>=_);show aZ (eW h (λvs s' h'=>181 (dh ?_)) λa a x=>x);exact 181 (181 (bH h'))
 |(false,x)::aD,_=>
  refine 29 (nb ((false,x)::aD)>>=_);show aZ (eW h (λvs s' h'=>181 (dh ?_)) λa a x=>x);exact 181 (181 (bH h'))
 |(true,x)::aD,b=>cases b
def Cg(h:cJ (kR ih d sc) Es es):(144 aU Es ab).fN (·.1)=false:=by
 induction h with
 |aR=>rfl
 |aQ a _ ih=>rw[na a.1];exact ih
def yu(apB:iz)(h:ai)(u:af):Prop:=∃k,(k=Tr.ec\/k=Tr.ud\/k=Tr.boundFrame)/\e6 apB h (keeperOf u) k
def ue{apB:iz}{A:dg}{E:0e5}{s:ae}{aU:dA}{f:af}{u9:2e4}{a:D (al×b5 af)}{Q:0e5}(b:a.fN (·.1)=false)
  (h:108 (nb a) (λvs s1=>yu apB s1.M f/\108 (aX f (first++vs)) Q E s1) E s):29 (Ma aU f u9 a []):=by
 unfold Ma;show 90 (afO b (eW h (λvs s1 h1=>25e5) λe e x=>x));obtain(⟨⟨k,p,apt⟩,h1⟩):=h1;have hs:(a.fN (·.1)||([]:D (ar am×b5 af)).fN (·.1.QA))=false:=by rw[b];rfl
 simp-fs only[hs];show fe (apt.eS λe=>?_);clear apt;have mj:∀{t:b5 af},108 t Q E s1->108 (t>>=λr=>gq [r] wz>>=λe=>b9 r) Q E s1:=
  λn=>aZ (eW n (λr v hr=>eP (nA (OG (bH hr)))) λe e x=>x)
 have m (mk:af):108 (callMarked mk f (first++vs) []) Q E s1:=by unfold callMarked;exact XW h1
 rcases p with H|rfl|rfl<;>dsimp only<;>first|exact mj h1|(split<;>first|exact mj h1|exact mj (m _))
def Ts(v:af):Prop:=match v with
 | .bJ _=>ku
 | .aB _=>ku
 | .N a=>∀P,Tt 8e0 2e2=true
 |_=>fR
def kT(F:MS)(v:V):Prop:=match v with
 | .aa v=>Ts v
 | .Z i=>∃k n,18e7=G (.cW k n)
 |_=>fR
def afP{x:Fx}{s:ae}{v:af}(apu:g9 s.M 36e4)(h:Ts v):yu 3e0 s.M v:=by
 cases v with
 |bJ=>exact⟨.ud,15e6,.qW H⟩
 |aB=>exact⟨.ud,15e6,.qW H⟩
 |N a=>exact keeps_K (h x.w.bV) s.M (st apu)
 |_=>exact h.ak
def yv{x:Fx}{J:aW}{F:MS}{s:ae}{f:V}{u:af}(R:0e9)(r:17 f u)(h:kT F f):yu 3e0 s.M u:=by
 cases f with
 |aa v=>cases r using tI.cE;exact afP R.d8 h
 |Z j=>
  obtain⟨k,n,e⟩:=h;cases r using mD.cE with
  |Z p a=>
   obtain(⟨fd,c1,c2,u1,u2,_,b,_⟩):=42 j e a;exact⟨.ec,2e6,(e6.ld (vg:=L) b).iX .oZ⟩
 |_=>exact h.ak
section
variable{ih:Ih}{d:I}{sc:cD}{F:MS}
def Ch(h:cJ (kR ih d sc) Es es){Q:0e5}{EE:0e5}{g:0e0->MS->3e2}(Y:3e6)(r:41e3)(R:0e9)
  (rf:17 f u) (P:10 ((kc ih es F).aF g))
  (hg:∀as aS aC s1 us,293 aS s1->69 aC s1.M->RV (J++aC) s1.M f u->cx (J++aC) s1.M as us->aH x (J++aC) s1 (g as aS) RV Q EE->yu 3e0 s1.M u/\282 (aX u (first++us)) s1):
  25 (Ma aU u u9 (144 aU Es x.ab) []):=by
 show ue (Cg h) (vJ h F x J s _ EE Y r R (P.aF λas aS aC s1 us b e r1 a=>?_));exact hg as aS aC s1 us b e (R.rv e rf) r1.1 a
def qX(ih:Ih)(fz:al)(d:I)(x:Fx):Prop:=∀f as F (J:aW) (s:ae) (u:af) (us:2e4) (Q:0e5) (EE:0e5),3e6->0e9->17 f u->169 as->10 (xF ih fz f as F)->
  kT F f/\25 (aX u us)
def afQ(p:PX ih d sc apu aqc)(h:cJ (kR ih d sc) Es es)(v:∀x:Fx,qX ih fz d x)
  (arm:∀ab,77 (.jR apu Es [] aU)=(do Ma aU (<-77 apu) [] (144 aU Es ab) (Mb aU (Mc [] ab)))):
  43 (.jR apu Es [] aU) ((86 aqc) λf F=>(kc ih es F).aF λas F=>xF ih fz f as F):=by
 intro x J s Q EE Y e R P;rw[arm];show iJ (p F x J s _ EE Y e R (P.aF λf aS u s1 u1 b i r1 r j=>?_));show Ch h Y e b r1 r λas du m2 m us a q rf r2 n=>?_;obtain⟨k,w⟩:=v x f as du _ m u1 us Q EE Y a rf r2 n;exact⟨yv a rf k,w⟩
universe e
universe e
section
open PySem PySem.W PyProof.Rows PySem.Spec PySem.SeqAt
open Builtin hiding id
set_option backward.match.sparseCases false
section
variable{bc:gR}{w:eA}{A:dg}{E:af->ae->Prop}{s:ae}
def afR{a sl:aI}{v:af}{b m:4e9}{l u:af}{lo k:8e5}{R:137 ky}(P:A.j5=G [])(d:4e4=15e1)
  (hS:s.M.rE sl l u .L) (hl:la l lo) (hu:la u k)
  (hv:(∃tk,v= .iQ ⟨m⟩ tk/\m.U<=16777216)\/(∃c,v= .N c/\c≠a/\37e1=281 m)) (hz:106 (bW b lo k m).U)
  (h:∀s',s'.M.ao a=281 (bW b lo k m)->(∀c o,c≠a->37e1=0e4->s'.M.ao c=0e4)->s.M.O.an<=s'.M.O.an->s'.dD=s.dD->s'.os=s.os->R (.kx (.bk .L)) s'):
  134 A (Builtin.«bytearray.__setitem__» (61 [2e2,29e7,v])) R E s:=by
 show dV (id hS) λo t q hd=>?_;have wr:∀(p:ae),p.M.ao a=15e1->(∀c o,c≠a->37e1=0e4->p.M.ao c=0e4)->s.M.O.an<=p.M.O.an->p.dD=s.dD->p.os=s.os->
   272 w A (do dL.uV (2e2) λapp=>app.oX 0 (53e6).aJ++(bP.mk m)++app.oX (424 53e6).aJ app.an;bk .L) R E p:=by
  intro p h0 k0 i g0 j;have eq:((bP.mk b).oX 0 (53e6).aJ++(bP.mk m)++(bP.mk b).oX (424 53e6).aJ (188 b)).f3=bW b lo k m:=by
   exact bC bP.f3 (Sb b m lo k)
  show bg (w5 h0 ?_ λh' W s'=>bX (h _ (by rw[<-eq];exact W) (λc o q e=>?_) ?_ g0 j))
  ·rw[<-bP.J9,eq];exact hz
  ·exact(s'.2 c q).aV (k0 c o q e)
  ·rw[s'.1];exact i
 have f:∀(p:ae) (iL:af),272 w A (dL.w3 iL) (λx s'=>x=⟨m⟩/\s'=p) E p->p.M.ao a=15e1->(∀c o,c≠a->37e1=0e4->p.M.ao c=0e4)->s.M.O.an<=p.M.O.an->p.dD=s.dD->p.os=s.os->
   ∀apw:bP be->K×K×K->b5 PySem.ky,134 A (do
    let jn<-dL.w3 iL
    let afS<-dL.w3 2e2
    let o3<-sliceIndices (uT lo) (uT k) (uT L) afS.an
    if(o3.2.snd==1)=true then do
     pe "bytearray.__setitem__.slice"
     if((jn.an:K)!=jo o3.p7 o3.2.p7-o3.p7)=true then do
      dL.JK (2e2)
      dL.uV (2e2) λapp=>app.oX 0 o3.p7.aJ++jn++app.oX (jo o3.p7 o3.2.p7).aJ app.an
      bk .L
     else do
      dL.uV (2e2) λapp=>app.oX 0 o3.p7.aJ++jn++app.oX (jo o3.p7 o3.2.p7).aJ app.an
      bk .L
    else apw jn o3) R E p:=by
  intro p iL V h0 k0 i g0 j apw;show 147 V (λx s' e=>?_) (λr r e=>e);(show oA e λS apq=>?_;subst S;subst apq);show fe (uU h0 λr=>?_);show fe (gt (Pt lo k L b.U (λe=>19e2)) λr=>?_);rw[afT];show thR cI ?_;show fe (ny λr=>?_);dsimp only;split
  ·show aZ (Px P h0 (aM.of (wr _ h0 k0 i g0 j)))
  ·exact aM.of (wr _ h0 k0 i g0 j)
 unfold Builtin.«bytearray.__setitem__»;show me al.lK λr r=>?_;show fe (Pq hS λr=>?_);show fe (th ⟨o,t,q⟩ λr=>me aq λr r=>?_);show fe (JI hS hl hu λr=>?_);rcases hv with⟨tk,H,hm⟩|⟨c,H,g,z⟩
 ·show me al.lK λr r=>?_;have n:=po s ⟨m⟩ tk;show fe (oy n io.ab9 λr=>thR cI ?_);show eP ?_;show 167 (iP n io.PD 20e3);show 167 (iP n io.ab7 20e3);show cL (cL (iP n io.ab8 (λr=>bX λr=>?_)));show oy n io.aca ?_;show fe (gt (a:=L) H λr=>me al.lK λr r=>?_);show fe (ny λr=>?_);show aZ (PK (b:=m) P (247 tk H hm) λh1 e1 k1 apA=>?_);have g:a≠s.M.O.an:=298 d;show iJ (348 (JI (s:=48e0) ⟨o,k1 _ _ t,q,hd⟩ hl hu λr=>?_));exact f _ _ (uU (s:=48e0) e1 15e2) (k1 _ _ d) (λc o r e=>k1 c o e) (by refine _<=h1.O.an;exact I.le.nq (id (Eq.bi apA))) H H _
 ·show uG (show¬(dL.sameRef _ _=true)from λe=>g (jv (α:=aI) e).bi) <|?_;show fe (oy (51 z) BA.jj λr=>me aq λr r=>?_);exact f _ _ (uU z 15e2) d (λc o r e=>e) 11e7 H H _
universe e
universe e
section
open PySem PySem.W PyProof.Rows PySem.Calls PySem.Spec PySem.SeqAt
open Builtin hiding id
set_option backward.match.sparseCases false
namespace BA
def afU:pX (.bJ "bytearray.extend")=b9 (.aB "method_descriptor"):=by refine builtinType _=_;rw[builtinType_eq_fast];kernel_rfl
def afV:PlainAttrs "bytearray" :=
 ⟨⟨"bytearray.__getattribute__",by rw[kD,kF];kernel_rfl,by decide+cn⟩,by rw[kD,kF];kernel_rfl⟩
universe e BA
def afW:nm 46=("append" :am):=av
def Tu:nm 94=("extend" :am):=av
def afX:nm 50=("pop" :am):=av
def afY:nm 75=("update" :am):=av
def Md{A:dg}{E:0e5}{w:eA}{s:ae}{a:aI}{aP:16e5}(x:s.M.j8 a aP){n:I}{id:fS}{b:b5 al}{Q:af×2e4->ae->Prop}
  (slot:ow "list" 4e6 id) (hty:pX (.bJ id)=b9 (.aB "method_descriptor")) (h:Q (.bJ id,[2e2]) s):aY (bh pw w) A (Me 2e2 4e6 b) Q E s:=by
 (show oE x λm e=>?_;try clear x);exact Tv (51 e) PySem.apu.plainAttrs_list slot hty (λa r=>by cases r;exact(51 e)) h
def Tw{x:Fx}{A:dg}{J:aW}{F:MS}{s:ae}{Q:af×2e4->ae->Prop}{EE:0e5}(R:0e9){i n:I}{p:9e3}{o:aps}{id:fS}{w:b5 al}(j:J[i]? =5e1)(u:22e1 =0e4)(b:rR o n=G id)
  (h:Q (.bJ id,[7e2]) s):aY 3e0 A (Me 7e2 4e6 w) Q EE s:=by
 have z:=42 i u j;clear u;have ad:∀{aP:16e5},s.M.j8 p.1 aP->A1 n=G id->aY 3e0 A (Me 7e2 4e6 w) Q EE s:=by
  intro aP k b;show cS b (λq e=>?_) λr b=>cS b (λq e=>?_) λr b=>cS b (λq e=>?_) λr b=>nS b;all_goals cases I.fZ q;subst e
  ·exact Md k (afW▸PySem.apu.slot_list_append) PySem.apu.type_list_append h
  ·exact Md k (Tu▸PySem.apu.afZ) PySem.apu.type_list_extend h
  ·exact Md k (afX▸PySem.apu.aeM) PySem.apu.type_list_pop h
 cases o with
 |az=>(show gp z λr r r k r=>?_;try clear z);exact ad k b
 |au=>(show gp z λr r r k r=>?_;try clear z);exact ad k b
 |bw=>
  clear ad;show cS b (λq e=>?_) λr b=>nS b;cases I.fZ q;subst e;show gp z λr r o e z=>?_;have m:o.ym:=by rcases z with⟨_,⟨_,_,m,_⟩,_⟩|⟨_,⟨_,_,m,_⟩,_⟩<;>exact m
  exact Tv ⟨_,e,m.1⟩ PySem.apu.plainAttrs_dict (afY▸PySem.apu.af0) PySem.apu.type_dict_update (λa v=>by cases v;exact⟨_,e,m.2.1⟩) h
 |eF=>
  clear ad;show cS b (λq e=>?_) λr b=>nS b;cases I.fZ q;subst e;(show hT z λr r e=>?_;try clear z);exact Tv (apq:= "bytearray") (51 e) BA.afV (Tu▸BA.JH) BA.afU (λa v=>by cases v;exact(51 e)) h
 |_=>exact nS b
def bmK(k n:I):ar fS:=cC (I.g4 k 1) (A1 n) (141 k 2 (Qx n) (141 k 4 (Qy n) L))
def Tx(o:aps)(n:I):rR o n=bmK o.cf n:=by cases o<;>rfl
def af1(h:I.bY o.cf o'.cf=true):rR o n=rR o' n:=by rw[Tx,Tx,I.fZ h]
structure af2(C:aI):Prop where
 bl:∀P n f,xG C n=G f->iH (KL P) (.N C) (nm n)=G (G (.N f))/\yp (KL P) (.N f)=G (.aB "function")
def vP(e:PySem.a0):al:=!xQ e λf s s s=>m5 f λs s=>true
def yw(h:vP o=true):attributeBase o eY ab whole=whole:=by
 cases o with
 |jR f=>
  cases f with
  |dr=>exact nF h
  |_=>rfl
 |_=>rfl
def af3(h:cJ (kR ih d sc) Es es):(144 aU Es ab).dJ (!·.1)=true:=by
 induction h with
 |aR=>rfl
 |aQ s hs x=>
  rw[na s.1];refine(true&&(144 aU _ ab).dJ (!·.1))=true;rw[x];rfl
def nW:Prop:=(∀C n,kb C n=true->vN C)/\∀C n f,xG C n=G f->vN C/\af2 C
def Ty(x:Fx):Prop:=∀i (p:9e3) o n id as F (J:aW) (s:ae) (us:2e4) (Q:0e5) (EE:0e5) (d:I),3e6->0e9->J[i]? =5e1->22e1 =0e4->rR o n=G id->169 as->10 (xA i o n as F)->
  25 (260 id (7e2::us))
section
variable{ih:Ih}{d:I}{sc:cD}{F:MS}
def af4{aps:PySem.a0}{k:apw}{n:I}{aU:dA}(v:nW)(j:PX ih d sc aps k)(hs:vP aps=true):
  43 (.kM aps 4e6 aU) ((86 k) λo F=>gO o 114 λi=>gN 18e7 113 λob=>Qz ob n F):=by
 intro x J s Q EE Y w R P;rw[af5,yw hs];show aZ (j F x J s _ EE Y w R (P.aF λo aS l s1 u1 m c r1 a=>?_));show 25e5;have mj:259 (Cf u1 4e6 true) Q EE s1->282 (do
   let r<-gq [u1] (Cf u1 4e6 true)
   afj aps u1 r
   b9 r) s1:=λh=>183 (hV h (λr f h2=>aM.of (bg (SD (bX h2)))) λu u e=>e)
 show mj ?_;show Lc r1 a λi p q a=>eD a λob e a=>?_;cases ob with
 |bv=>exact fU a λb a=>Tm m (v.1 _ _ b) q e b a
 |_=>exact a.ak
def af6(ob:Internal.aps):(∃C dd,ob= 113 dd)\/∀(ih:Ih) fz i n as F,Kn ih fz i ob n as F=gB (rR ob n).iq 119 ((kc ih as F).aF λas F=>gN 18e7 124 λh=>251 ob.cf h.cf 120 (xA i h n as F)):=by
 cases ob with
 |bv=>exact .a4 ⟨_,_,H⟩
 |_=>exact .aE λs s s s s s=>rfl
def af7{aps:PySem.a0}{A:apw}{u:10e4}{es:23e6}{n:I}{sv aU:dA}{fz:al}(apA:nW)(ho:PX ih d sc aps A)(hs:vP aps=true)(h:cJ (kR ih d sc) u es)(hl:I.jN u.U 30=true)(hp:(sv.Mf==aU.iF)=true)(W:∀x:Fx,qX ih fz d x)(hm:∀x:Fx,Ty x):
  43 (.jR (.kM aps 4e6 sv) u [] aU) ((86 A) λo F=>gO o 125 λi=>gN 18e7 123 λob=>Kn ih fz i ob n es F):=by
 intro x J s Q EE Y g R P;rw[Tz,yw hs];show aZ (ho F x J s _ EE Y g R (P.aF λo aS m1 s1 u1 v aqS r1 a=>?_));show 25e5;have Mg:Ci (u.U+([]:D TA).U) (144 aU u x.ab) (Mb aU (Mc [] x.ab))=true:=by
  unfold Ci;rw[af3 h];refine(true&&true&&bK (u.U+0+0<30))=true;rw[al.Pk,al.Pk,BP];exact I.si.mp hl
 unfold TB;rw[Mg];have apq:∀{Q:137 dA} {s},Q aU s->25 (Cj true aps x.ab sv aU):=by
  intro Q s h;unfold Cj;rw[hp];exact bH h
 have apw:=st v.d8;show Lc r1 a λi p c a=>eD a λob e a=>?_;rcases af6 ob with⟨C,dd,H⟩|eq
 ·(show qg (Tl v c e) λaqT dx LQ m hpp apy r apD=>?_;show lG apD λhd hg hl' zz=>?_;try clear apD);show kQ a (λS a=>?_) λS a=>eD a λf apE a=>fU a λapt a=>?_
  ·have apv:=apA.1 _ _ S;show 183 (method_usual apw apy (apv.ga _) (apv.gx _) (apv.kb _ _ S) H (Tm v apv c e S (a.aF λf du m2 s2 apF apr K2 r2 aqd=>?_)));show aZ (apq ?_);show Ch h Y g apr r2 aqd λas l V j us b t rf r3 P3=>?_;show oA (W x f as l _ j apF us Q EE Y b rf r3 P3) λk w=>?_;exact⟨yv b rf k,w⟩
  ·show oA (apA.2 _ _ _ apE) λapv apB=>?_;show oA (apB.bl x.w.bV n f apE) λapC apx=>?_;have z:=L3 (m:=m) (n:=n) r;rw[ar.isNone_iff_eq_none.mp apt]at z;show 183 (method_fn apw apy (apv.ga _) (apv.gx _) apC apx (by refine(L4 4e6 (hI LQ m)).aj _=_;rw[z];rfl) ?_);show aZ (apq ?_);show Ch (f:= 5 f) h Y g v 14e9 a λas l V j us b t rf r3 P3=>?_;show oA (W x _ (15e9::as) l _ j _ (7e2::us) Q EE Y b rf (.aQ (v.rv t (.Z i p c)) r3) P3) λk w=>?_;exact⟨yv b rf k,w⟩
 ·rw[eq]at a;show fU a λapp a=>?_;show oE (ar.mT.mp app) λid app=>?_;show iJ (348 (Tw v c e app λzz=>?_));show aZ (apq ?_);show Ch (f:= 354 id) h Y g v 14e9 a λas l V j us b t rf r3 P3=>⟨yv b rf d2,?_⟩;show eD P3 λapu apz P3=>fU P3 λhk P3=>?_;show aN ((v.eH t).Z i p c) λq E B=>?_;exact B▸hm x i q apu n id as l _ j us Q EE d Y b E apz (af1 hk▸app) r3 P3
universe e
def PB(ih:Ih)(d:I)(s:cD)(B:11e1)(b:15e5):Prop:=∀F,JB d s B F (ih 12e5 F)
def vQ:PySem.a0->al
 | .gV .. =>false
 | .SetComp .. =>false
 | .DictComp .. =>false
 |_=>true
def Cm(h:vQ vK=true):TC vK t n ab=42e5:=by
 cases vK<;>first|rfl|cases h
def TD{x:Fx}{d:I}(Y:3e6):interactive x.ab=false:=by
 unfold interactive;rw[Y.fn];rfl
section
variable{ih:Ih}{d:I}{sc:cD}{F:MS}
def af8:JB d sc [] F 24e8:=λx J s Q EE Y h hz e R P=>273 .bA
def af9{S:cm}{B:11e1}{k:2e9}{rb:MS->2e9}(h:JS d sc S F k)(m:∀aS,JB d sc B aS (rb aS)):JB d sc (S::B) F (k.aF λr F=>rK r F (rb F)):=by
 intro x J s Q EE Y b hz p R P;show 51e6;show aZ (h x J s _ EE Y b hz p R (P.aF λr aS v s1 u1 e w r1 a=>?_));cases r1 with
 |next=>exact m aS x _ s1 Q EE Y b hz p e a
 |bk n=>exact bH (a.fJ e (.bk n))
def aga{E:PySem.a0}{e:3e2}{aU:dA}(h:43 E e)(p:vQ E=true):JS d sc (.a0 E aU) F (e.aF λn F=> 24e8):=by
 intro x J s Q EE Y r hz w R P;rw[agb,TD Y,Cm p];show 44 29e2;show aZ (h x J s _ EE Y r R (P.aF λv aS k s1 u1 a m r1 b=>?_));exact aM.of (agc (b.fJ a .bA))
def agd(h:43 E ra):JS d sc (.pN (G E) aU) F (ra.aF (396 (105 v))):=by
 intro x J s Q EE Y b hz k R P;show 23 (Mh ..);show 25e5;refine aM _ _ (do let v<-27e9;return iK.bk v) _ _ _;show aZ (h x J s _ EE Y b R (P.aF λv aS r s1 u1 e p r1 a=>?_));exact bH (a.fJ e (.bk r1))
def age:JS d sc (.pN L aU) F (7 (105 0e6)):=by
 intro x J s Q EE Y h hz e R P;show 23 (Mh ..);exact 44 (273 (.bk 14e9))
def agf:JS d sc (.uI aU) F 24e8:=by
 intro x J s Q EE Y h hz e R P;show 23 (arm_exec_Pass ..);exact 44 (273 .bA)
def agg{apq:PySem.a0}{B1 B2:11e1}{k:R al}{p rb:MS->2e9}{aU:dA}(h:JT d sc apq F k)(m:∀aS,JB d sc B1 aS (p aS))(n:∀aS,JB d sc B2 aS (rb aS)):
  JS d sc (.If apq B1 B2 aU) F (k.aF λc F=>cC c (p F) (rb F)):=by
 intro x J s Q EE Y e hz r R P;show 23 (arm_exec_If ..);show 44 (aZ (h x J s _ EE Y e R (P.aF λc aS v s1 u1 a w r1 b=>?_)));cases r1;cases c
 ·exact n aS x _ s1 Q EE Y e hz r a b
 ·exact m aS x _ s1 Q EE Y e hz r a b
def JW(d:I)(h:cD)(apq:PySem.a0)(B:11e1)(F:MS)(r:2e9):Prop:=
 ∀(x:Fx) (J:aW) (s:ae) (Q:34e5) (EE:0e5),3e6->x.ab.bt=h->x.fz=false->pU 3e0 x.A x.ab EE->0e9->64 r RF->
  e7 3e0 x.A (.DM apq B [] x.ab) (367 f (zy 3e0 x.A x.ab EE e s')) s
def TE{apq:PySem.a0}{B:11e1}{n:R al}{ra rw:MS->2e9}(h:JT d sc apq F n)(w:∀aS,JB d sc B aS (ra aS))(u:∀aS,JW d sc apq B aS (rw aS)):
  JW d sc apq B F (n.aF λq F=>cC q ((ra F).aF λr F=>rK r F (rw F)) 24e8):=by
 intro x J s Q EE Y a hz e R P;show zF ?_;show eW (h x J s _ EE Y a R (P.aF λc aS o s1 u1 p f r1 k=>?_)) (λb b z=>z) e;cases r1;cases c
 ·exact k.fJ p .bA
 ·show eW (w aS x _ s1 _ EE Y a hz e p (k.aF λr du m2 i u2 m l r2 v=>?_)) (λb b z=>z) e;cases r2 with
  |next=>exact u du x _ i Q EE Y a hz e m v
  |bk j=>exact v.fJ m (.bk j)
def TF{apq:PySem.a0}{B:11e1}{r:2e9}{aU:dA}(h:JW d sc apq B F r):JS d sc (.Bm apq B [] aU) F r:=by
 intro x J s Q EE Y e hz a R P;show 23 (arm_exec_While ..);show 44 56e1;rw[wy];exact h x J s Q EE Y e hz a R P
universe e
def Mi{α β:Type}{l:D (α×β)}:(l.aj (·.2)).dT->∀{n m:α} {c:β},(n,c)∈l->(m,c)∈l->n=m:=by
 induction l with
 |aR=>exact λx x x x h=>nomatch h
 |aQ p l a=>
  intro nd n m c h1 h2;show oA (D.jd.mp nd) λs e=>?_;rcases D.eR.mp h1 with e1|h1<;>rcases D.eR.mp h2 with e2|h2
  ·rw[<-e1]at e2;exact(kC.mk.cF e2).1.bi
  ·rw[<-e1]at s;exact bM (D.ox (f:=(·.2)) h2) s
  ·rw[<-e2]at s;exact bM (D.ox (f:=(·.2)) h1) s
  ·exact a e h1 h2
section
variable{x:Fx}{J:aW}{F:MS}{s:ae}{h':ai}
def aK.Mj(R:0e9)(r:fr x a)(hs:166 a h')(hd:FA x a->∃o es n,18e4=0e4/\o.bf= .bw es n)(apq:∃o,18e4=0e4)
  (hc:x.fz=false->∀n c,(n,c)∈x.ab.b3->∃w,h'.pP c w) (apC:f8 J J s.M h'->Bw x J h' T) (k:I):241 (219 T) k/\32e3:=by
 have no:¬14e2:=R.bI a r;have h:∀b q,b≠a->8e8=G q->11e8=G q:=λb q n e=>(hs.2 b n).aV e;have tk:jr s.M h':=λb q e t=>h b q (λz=>by subst z;rw[(R.tQ r e).2.2]at t;cases t) e;have bS:f8 J J s.M h':=by
  show⟨λb aP e=>?_,λb aP e d=>?_,λb apD n e d=>?_,λm p e=>⟨p,e,H⟩,λm m=>jr.dH tk⟩
  ·show gD e λo e c n dd=>?_;exact⟨o,391 o ((R.tQ r e).1 _ _ dd) e,c,n,dd⟩
  ·show gD e λo e c n dd=>?_;exact⟨⟨o,391 o ((R.tQ r e).1 _ _ dd) e,c,n,dd⟩,d⟩
  ·exact⟨391 _ ((R.tQ r e).2.1 _ _ H) e,d⟩
 show⟨⟨λq u=>h _ _ (λz=>?_) (R.d8 q u),R.cU,λj o q e1 e2=>?_,R.nd,R.gy,λb v=>by have:=R.up b v;rw[<-hs.1]at bb;exact bb,apC bS,R.bI,R.hJ,R.b3,hc,λl app e S=>?_,R.fx,R.dD,R.os,tk.Y R.cW⟩,?_⟩
 ·have h1:=D.ib.mp (BW x.w.bV) q u;clear hs;have h2:=R.hJ a r;rw[<-z]at h2;exact 31 (I.si.mp h1) h2
 ·exact se bS (λb v apA e=>295 b apA (no ⟨q,D.ja e2,v⟩) e) (R.O j o q e1 e2)
 ·obtain(⟨P,apt,o,f1,f2,es,n,V⟩):=R.gz l app e S;clear no;by_cases hL:apt=a
  ·subst hL;show om (hd ⟨l,app,e,S,f1⟩) λo' apw W g1 g2=>?_;clear hd;exact⟨P,apt,o',f1,g1,apw,W,g2⟩
  ·exact⟨P,apt,o,f1,h apt o hL f2,es,n,V⟩
 ·show⟨λb q e m m i m=>295 b q (i r) e,λb q e f i=>⟨q,295 b q (i r) e,H,H⟩,λb q e t m=>tk b q e t,λb q e=>?_,(by intro b g;(show aN g λq u m=>?_;try clear g);exact nomatch u)⟩
  ·by_cases v:b=a
   ·subst v;exact apq
   ·exact⟨q,h b q v e⟩
def sw{α:Type}(d:34e6)(n k:I)(v:α):19 (fv d n v)=if k=n then 2e5 else 19 d:=by
 induction d with
 |aR=>
  refine(match I.bY n k with|true=>2e5|false=>L)=_;cases q:I.bY n k with
  |true=>rw[eX (42e8).bi]
  |false=>rw[d6 (λe=>by subst e;rw[I.qJ]at q;cases q)];rfl
 |aQ p d s=>
  rw[BK];cases q:I.bY p.1 n with
  |true=>
   have e:=42e8;refine 19 ((p.1,_)::d)=_;rw[nQ,nQ p];cases z:I.bY p.1 k with
   |true=>rw[eX ((I.fZ z).bi.aV e)];rfl
   |false=>rw[d6 (λf=>by rw[f,<-e,I.qJ]at z;cases z)];rfl
  |false=>
   refine 19 (p::fv d n v)=_;rw[nQ,nQ];cases z:I.bY p.1 k with
   |true=>
    have e:=I.fZ z;clear z;rw[d6 (λf=>by rw[e,f,I.qJ]at q;cases q)];rfl
   |false=>exact s
variable{Q:ey->ae->Prop}{EE:af->ae->Prop}
def Mk{d k:I}{id:am}{v:V}{u:af}(Y:3e6)(hz:39e2=18e8->x.fz=false)(R:0e9)(r:15e7)(C:id=5e5)(p:39e2=12e3\/39e2=18e8)
  (h:∀h' t,241 (F.fv k v) t->32e3->156 () t):96 (Ml x.ab id u):=by
 subst C;show wpAny_bindName ?_;obtain⟨m,A,hm⟩:=R.bq.iN;rcases p with p|p
 ·have apu:(x.ab.bt.d9== .class||(x.ab.bt.d9== .TG&&x.ab.cY !=x.ab.g8))=false:=by rw[Y.fn];rfl
  show agh p A (λh' f hs=>?_) apu;have apA:=R.Mj (T:=fv F.T k v) (h':=h') 2e6 hs (λapD=>by(show uD f λo es ep e d apD=>?_;try clear f);exact⟨o,es,ep,e,d⟩) (by(show om f λo es ep e apD=>?_;try clear f);exact⟨o,e⟩)
   (λz n c j=>by
    show gd (R.hj z n c j) λw o e d=>?_
    exact⟨w,o,(hs.2 c (λq=>by subst q;exact R.b3.2.2 n j)).aV e,d⟩)
   (λbS=>⟨⟨_,f,λl i a b=>?_⟩,λl i a b=>?_⟩) (s.a1+1)
  ·exact h h' _ apA.1 apA.2
  ·rw[sw]at b;split at b
   ·rename_i e;subst e;cases b;exact⟨u,eX H,30e4⟩
   ·rename_i e;show aN (hm l i a b) λapp e1 r1=>?_;exact⟨app,by rw[d6 (λq=>e (r6 q))];exact e1,34e9⟩
  ·rw[sw]at b;split at b
   ·rename_i e;subst e;rw[p]at a;rcases a with a|a<;>cases a
   ·obtain(⟨c,app,e1,⟨o,e2,W⟩,r1,no⟩):=200 l i b;show⟨c,app,e1,⟨o,(hs.2 c λq=>?_).aV e2,W⟩,34e9,no⟩;subst q;exact R.b3.2.2 _ (nc e1)
 ·show oE (ar.mT.mp (Y.vz _ (.a4 p))) λc j=>?_;have P:=nc j;have apw:=hz p;clear hz;show oE (R.hj apw _ _ P) λw apq=>?_;show wpAny_storeName_cell Y.fn p j apq λh' S hs=>?_;have apE:x.ab.cY≠c:=λq=>by subst q;exact R.b3.2.2 _ P
  have E:∀n,(n,c)∈x.ab.b3->n=5e5:=by
   intro n f;have nd:=R.b3.1;exact(Mi nd f P)
  have apA:=R.Mj (T:=fv F.T k v) (h':=h') (353 apw P) hs (λapr=>by
    (show aN apq λo e d=>?_;try clear apq)
    exact bM apr (R.lv e λes n q=>by rw[d]at q;cases q)) (by(show aN S λo e apD=>?_;try clear S);exact⟨o,e⟩)
   (λz n g B=>by
    clear apq
    by_cases q:g=c
    ·subst q;exact⟨_,S⟩
    ·show gd (R.hj z n g B) λw o e d=>?_
     exact⟨w,o,(hs.2 g q).aV e,d⟩)
   (λbS=>⟨⟨m,A.sameBut hs apE,λl i a b=>?_⟩,λl i a b=>?_⟩) s.a1
  ·exact h h' _ apA.1 apA.2
  ·rw[sw]at b;clear apE h;split at b
   ·rename_i e;subst e;rw[p]at a;cases a
   ·show aN (hm l i a b) λapp e1 r1=>?_;clear p;exact⟨app,e1,34e9⟩
  ·rw[sw]at b;split at b
   ·rename_i e;subst e;cases b;exact⟨c,u,j,S,30e4,R.bI c (353 apw P)⟩
   ·rename_i e;clear S j P;obtain(⟨g,app,e1,⟨o,e2,W⟩,r1,no⟩):=200 l i b;clear b;show⟨g,app,e1,⟨o,(hs.2 g λq=>?_).aV e2,W⟩,34e9,no⟩;clear e2 hs no;subst q;exact e (r6 (E _ (nc e1)))
universe e
def Mm{h:ai}{a:aI}{aP:16e5}(x:h.j8 a aP)(f:16e5->16e5):(h.eM a (aA.px f)).j8 a (f aP):=by
 (show oE x λn e=>?_;try clear x);have:∃s,aA.px f (327 aP n)=(327 (f aP) s):=by
  unfold aA.px;exact 25e1
 (show oE bb λs hm=>?_;try clear bb);exact⟨s,by rw[258 e (by rw[hm];rfl),hm]⟩
section
variable{α:Type}[qO α]
def agi{bL:D (α×af)}{v:af}(a:(q::bL).aj (·.1) |>.dT):yy (q::bL) k v=if q.1=k then(q.1,v)::bL else q::yy bL k v:=by
 unfold yy;by_cases e:q.1=k
 ·have x:∀p∈bL,p.1≠k:=λp h z=>(D.jd.mp a).1 (by refine q.1∈_;rw[e,<-z];exact D.ox h);rw[eX e,eX (D.p8.bn ⟨q,D.dQ ..,eE e⟩),D.nX,eX e,(D.yz λp h=>d6 (x p h):bL.aj (λs=>if s.1=k then(s.1,v)else s)=bL.aj id),D.map_id]
 ·rw[d6 e,D.any_cons,D.nX,d6 e,fX e,al.false_or];split<;>rfl
def TH(p:V×V)(l:5e6)(k v:V):iS (p::l) k v=cC (mZ p.1 k) ((p.1,v)::l) (p::iS l k v):=av
def TJ{f:α->V->Prop}(i:∀{a b k m},f a k->f b m->mZ k m=bK (a=b)){k v:V}{u:af}(n:f a k)(r:22e2){l:5e6}{bL:D (α×af)}(s:RK f J h l bL):(bL.aj (·.1)).dT->RK f J h (iS l k v) (yy bL a u):=by
 induction s with
 |aR=>exact λj=> 265 ⟨n,r⟩
 | @aQ p q l bL x s ih=>
  intro w;rw[agi w];rw[TH,i x.1 n];by_cases e:q.1=a
  ·rw[eE e,eX e];exact .aQ ⟨x.1,r⟩ s
  ·rw[fX e,d6 e];exact .aQ x (ih (D.jd.mp w).2)
universe e
def TK(k v:V)(l:5e6):(iS l k v).U<=l.U+1:=by
 induction l with
 |aR=>exact 11e7
 |aQ p l s=>
  rw[TH];cases mZ p.1 k with
  |true=>exact 37e9
  |false=>exact I.KZ s
section
variable{x:Fx}{J:aW}{F:MS}{s:ae}{Q:ey->ae->Prop}{EE:af->ae->Prop}
def TL{h:ai}{a:aI}{o:aA}(e:14e4=0e4)(x:o.ym)(hd:∃es ep,o.bf= .bw es ep):∀q,14e4=G q->iu q=false:=by
 intro q s;rw[e]at s;cases s;show qf hd λes ep hd=>?_;exact tL hd
def agj{k:I}{p:9e3}{l:5e6}{i v:V}{app u:af}{Q:17e3}(R:0e9)(apD:F.dM k=G (.bw l))(g:J[k]? =5e1)(m:nI l i=true)(A:l.U<=900)(ri:17 i app)(r:15e7)
  (h:∀{h' t},241 (F.cN k (.bw (iS l i v))) t->32e3->156 () t):96 (sx 7e2 app u):=by
 show gp (42 k apD g) λq apE c e z=>?_;have j:c.ym/\∃es ep,c.bf= .bw es ep:=by rcases z with⟨_,⟨es,ep,j,hd,_⟩,_⟩|⟨_,⟨es,ep,j,hd,_⟩,_⟩<;>exact⟨j,es,ep,hd⟩
 have iV:=TL e j.1 j.2;clear j;have apr:nD x J s.M 7e2 l:=by
  show⟨p.1,H,?_,z.f5 (.f5 λapw w=>⟨377 c e w.1,w.2⟩) (.f5 λapw w=>⟨377 c e w.1,w.2⟩)⟩;have h1:=R.gy p.1 ⟨p,D.ja g,D.dQ ..⟩;show sd.bn λq=>?_;rw[q]at h1;exact bM h1 aq
 clear z e;have go:∀{apv:Type} [qO apv] {gY:x5 pw x.w apv} {f:38e8} (P:∀{a b k apq},f a k->f b apq->mZ k apq=bK (a=b)) {a:apv} {bL:31e6} (m:f a i) (S:gY.is a app=true),s.M.qP gY p.1 bL->RK f J s.M l bL->
   (∀{h'} {o:aA},(∃bL,o.qL gY bL/\RK f J h' (iS l i v) bL)->DK x.w J h' o (iS l i v))->96 (sx 7e2 app u):=by
  intro apv _ gY f P a bL m S d n fV;have B:=TK i v l;show wpAny_setItem_pairs S d (λh' W hs=>?_) (by rw[f0,n.cU];lia);have apA:=338 (.bw (iS l i v)) g hs iV ⟨q,bN,(ai.lX.mp W).f5 λo' w=>⟨w.1,fV ⟨_,w.2,TJ P m (dP k r) (tO k n) (Rw d)⟩⟩⟩ (s.a1+1);exact h apA.1 apA.2
 clear h;induction ri using RV.cE with
 |y=>
  show jA (x6 apr m) λa bL e1 n1 d n=>?_;cases e1;exact go BH 25e1 (eE H) d n .a4
 |ag=>
  show jA (BJ apr m) λa bL e1 n1 d n=>?_;clear n1;cases e1;exact go BI H (eE H) d n .aE
 |_=>exact nF m
def agk{o i v:V}{b w u:af}(R:0e9)(apq:17 o b)(ri:17 i w)(r:15e7)(P:203 (Kk F o i v)):
  96 (sx b w u):=by
 induction apq using RV.cE with
 |Z k p h=>
  show eD P λob d P=>?_;cases ob with
  |az l t=>
   show m7 ri P λj t' tk P=>?_;show oA (tY P) λa P=>?_;have a:=fo a;(show gp (42 k d h) λq app aP m c=>?_;(show oE m λn e=>?_;try clear m));have W:=iw c;show ki_setAt e a.1 bN (by refine j<((aP.U:I):K);lia) ?_;have apA:=R.m9 (o':= .az (l.cN j.aJ v) (t'||t)) h (D.dQ ..) (ai.fy.eM ..) (tZ (⟨_,e,H,n,H⟩:151 p.1 aP)) (h':=s.M.eM p.1 (aA.px (·.pW j.aJ u))) (λk=>⟨q,by rw[D.vM];exact app,aP.cN j.aJ u,by simpa using Mm ⟨n,e⟩ (·.pW j.aJ u),.cN (dP k r) (hK k c) _⟩) s.a1;exact 266 d2
  |bw l=>exact fU P λS P=>fU P λg P=>agj R d h S (I.cz g) ri r λz f=>P.bk z f d2
  |_=>exact P.ak
 |_=>exact P.ak
universe e
def yA{α:Type}(r:3e3):r.ci []=r:=by cases r<;>rfl
def qY{α β:Type}(a:α)(F:MS)(f:α->MS->R β):(R.Y a F).aF f=f a F:=yA _
def sy(J:aW)(h:ai):9e5->af->Prop
 |L,u=>u= .L
 |G v,u=>22e2
def Mn(k:f8 J xW h h'):∀{o:9e5} {u:af},sy J h o u->sy xW h' o u
 |L,_,e=>e
 |G _,_,r=>dP k r
def Cn(J:aW)(h:ai)(p:9e5×9e5)(u:af):Prop:=∃sl s x,u= 29e7/\h.rE sl s x .L/\sy J h p.1 s/\sy J h p.2 x
inductive PO (ih:Ih) (d:I) (sc:cD):ar PySem.a0->ar apw->Prop
 |L:PO ih d sc L L
 |G {E e}:PX ih d sc E e->PO ih d sc (G E) (G e)
def vR(ih:Ih)(lo s:ar apw)(F:MS):R (9e5×9e5):=(lT ih lo F).aF λlo F=>(lT ih s F).aF λs F=> 7 (lo,s)
section
variable{ih:Ih}{d:I}{sc:cD}
def TM(h:PO ih d sc E e)(F:MS)(x:Fx)(J:aW)(s:ae)(Q:0e5)(EE:0e5)(Y:3e6)(r:41e3)(R:0e9)(P:64 (lT ih e F) sy):
  25 (valueOrNone (evalOpt E x.ab)):=by
 cases h with
 |L=>exact 273 H
 |G h=>exact h F x J s Q EE Y r R (P.aF λv aS p s1 u1 a k r1 b=>b.fJ a r1)
def TN{apt apA:41e9}{lo r:ar apw}(p:PO ih d sc apt lo)(q:PO ih d sc apA r)(F:MS)(x:Fx)(J:aW)(s:ae)(Q:0e5)(EE:0e5)(Y:3e6)(a:41e3)(R:0e9)(P:64 (vR ih lo r F) Cn):
  25 (234 (.r0 apt apA L aU)):=by
 show 23 (arm_eval_Slice ..);show aZ (TM p F x J s _ EE Y a R (P.aF λv aS n s1 u1 e j r1 w=>?_));show 90 (TM q aS x _ s1 _ EE Y a e (w.aF λv2 du m2 b u2 u m r2 i=>?_));show 90 32e6;have E:=u.ext (jW (329 "slice" #[u1,u2,.L])) (vG _) b.a1;have k:=jc (J:=J++n++m2) (jW (329 "slice" #[u1,u2,.L])) (h:=b.M);show aM.of (qs ?_);exact i.bk E.1 E.2 ⟨_,u1,u2,H,.jn ..,Mn k (Mn (e.eH m) r1),Mn k r2⟩
universe e
def TP(r:sy J h o u)(e:vg o=G (i,t)):la u i:=by
 cases o with
 |L=>cases e;have:u= .L:=r;rw[bb];exact .L
 |G v=>cases v with
  |y i t=>cases e;have:145 (.y _ _):=r;cases bb;exact .y ..
  |_=>exact 18e0
set_option tactic.hygienic true in
theorem uf{lo p:9e5}{r s:af}{x app:8e5}{t:al}(rl:sy J h lo r)(k:sy J h p s)(e:AV lo p=G (x,app,t)):la r x/\la s app:=by
 unfold AV at e;split at e
 ·rename_i a t' e1;split at e
  ·rename_i b m e2;cases e;exact⟨TP rl e1,TP k e2⟩
  ·cases e
 ·cases e
section
variable{x:Fx}{J:aW}{F:MS}{s:ae}{Q:af->ae->Prop}{EE:af->ae->Prop}
def ug{α δ:Type}{br:199 α δ}{Q:38e3}{C:Prop}{lo e:9e5}{w:I}{f:8e5->8e5->al->3e3}(P:11 (gS lo e w f))(g:∀a b t,AV lo e=G (a,b,t)->11 (f a b t)->C):C:=eD P λp h P=>g p.1 p.2.1 p.2.2 h P
def agl{β:Type}{C:38e5}{l:2e1}{d:β}{f:4e9->2e1->β}(hd:C d)(s:∀app o,C (f app o)):C (Kf l d f):=ye hd λq o=>by
 cases q with
 | «by» app=>exact s app o
 |_=>exact hd
def agm{fz:al}{a:V}{p:9e5×9e5}{apA up:af}(R:0e9)(apE:17 a apA)(apq:Cn J s.M p up)(P:10 (tB fz a p.1 p.2 F)):
  96 (pj apA up):=by
 (show kX apq λsl B A apw j r1 r2=>?_;try clear apq;subst apw);induction apE using RV.cE with
 |ch b tk n=>exact ug P λlo k t e P=>(uf r1 r2 e).ak λp1 m=>aeF R n j p1 m P
 |ad l t a aP v apr n w=>
  have P:10 (gS p.1 p.2 30 λx app u=>222 (176 l) (t||u)):=P;show ug P λlo k t e P=>?_;exact(uf r1 r2 e).ak λp1 m=>Lu R v w n j p1 m P
 |Z i q f=>
  show eD P λob S P=>?_;cases ob with
  |az l t=>
   show gp (R.O _ _ q S f) λd n aP v w=>?_;have P:10 (gS p.1 p.2 31 λx app u=>222 (176 l) (t||u)):=P;show ug P λlo k t e P=>?_;exact(uf r1 r2 e).ak λp1 m=>Lu R v.iG w n j p1 m P
  |au l=>
   show gp (R.O _ _ q S f) λd n aP v w=>?_;have P:10 (gS p.1 p.2 32 λx app d=>cC fz (7 (6 (176 l.er))) (F.jn (.au (176 l.er).er))):=P;show ug P λlo k t e P=>(uf r1 r2 e).ak λp1 m=>?_;have apD:=iw w;have g:=Ls l.er lo k;rw[D.lx]at apD g;cases fz with
   |true=>
    show Lu (fz:=true) (t:=true) R v.iG w (by rw[D.lx];exact n) j p1 m ?_;show⟨λp c=>?_,P.2⟩;have c:p∈ (286 (bE l.er lo k).U)++[]:=c;rw[D.dZ,D.cZ]at c;rw[c];exact I.dW g n
   |false=>
    show aeE v.iG j p1 m .L (by simp) ?_ (364 aP.U);rw[Sc];have W:=Sf lo k w;exact R.BR (jW _) (Lk _) P s.a1 λbS=>⟨H,by rw[D.lx];lia,bE aP lo k,⟨_,9e9⟩,by rw[D.Sn];exact hK bS W⟩
  |eF b=>
   show hT (R.O _ _ q S f) λd n v=>?_;have P:10 (gS p.1 p.2 33 λx app d=>Kf F.bG (7 (.ei (176 b))) λz o=> 20 (.ei z) F.O F.T o [176 b=z]):=P;show ug P λlo k t e P=>(uf r1 r2 e).ak λp1 m=>?_;have g:=Ls b lo k;show abO v j p1 m (by rw[BV];refine(bE b lo k).U<=_;lia) ?_;rw[BV];have E:=R.ext (jW (fi (bE b lo k))) (vG _) s.a1;have no:¬cy J s.M.O.an:=λh=>292 (R.up _ h);have cR:RV J (s.M.b6 (fi (bE b lo k))) (.ei (bE b lo k)) 9e8:= .ei _ _ 9e9 no bN;revert P;show agl (C:=λr=>10 r->_) (λP=>P.bk E.1 E.2 cR) λz o P=>?_;exact P.2 [] _ _ (by rw[D.dZ];exact E.1.bG o) E.2 (by rw[D.dZ,<-(oU P.1:bE b lo k=z)];exact cR)
  |_=>exact P.ak
 |_=>exact P.ak
def agn{fz:al}{a:V}{lo e:9e5}(P:10 (tB fz a lo e F)):LF F a:=by
 cases a with
 |ch=>trivial
 |ad=>trivial
 |Z o=>exact eD P λob h P=>(427 h)
 |_=>exact P.ak
universe e
section
variable{ih:Ih}{d:I}{sc:cD}{F:MS}
def ago{A:PySem.a0}{e:apw}{apt apA:41e9}{lo h:ar apw}{k aU:dA}{fz:al}(m:PX ih d sc A e)(b:PO ih d sc apt lo)(v:PO ih d sc apA h):
  43 (.qH A (.r0 apt apA L k) aU) (13e4 λo F=>(lT ih lo F).aF λlo F=>(lT ih h F).aF λh F=>tB fz o lo h F):=by
 have cR:=SE (aU:=aU) (br:=Cn) (ri:=vR ih lo h) (f:=λa p F=>tB fz a p.1 p.2 F) (m F) (apy:= .r0 apt apA L k) (λaS x J s Q EE Y w R P=>TN b v aS x J s Q EE Y w R P)
  (λaS x J s Q EE a i u q Y R r ri P=>by
   show gd (SF R r (agn P)) λapq id n b=>?_
   exact SB n b (agm R r ri P))
 have eq:(13e4 λa F=>(vR ih lo h F).aF λp F=>tB fz a p.1 p.2 F)=13e4 λo F=>(lT ih lo F).aF λlo F=>(lT ih h F).aF λh F=>tB fz o lo h F:=by
  congr 1;funext a F;unfold vR;rw[yj];congr 1;funext lo F;rw[yj];congr 1;funext h F;exact qY ..
 rw[<-eq];exact cR
def agp{Q:0e5}{EE:0e5}(P:10 (xx a i F)):LF F a:=by
 cases a with
 |X=>trivial
 |ad=>trivial
 |Z o=>exact eD P λob e P=>(427 e)
 |aa v=>exact eD P λl h b=>bC ar.iq h
 |_=>exact P.ak
def agq{A apy:PySem.a0}{e h:apw}{aU:dA}(p:PX ih d sc A e)(n:PX ih d sc apy h):
  43 (.qH A apy aU) (13e4 λo F=>(86 h) λi F=>xx o i F):=
 SE (aU:=aU) (br:=RV) (ri:=cj ih h) (f:=λa i F=>xx a i F) (p F) (λaS x J s Q EE Y m R P=>n aS x J s Q EE Y m R P)
  (λaS x J s Q EE a i w v Y R b ri P=>by
   show gd (SF R b (agp P)) λapq id k r=>?_
   exact SB k r (aet R b ri P))
universe e
def agr{bc:gR}{w:eA}{A:dg}{E:0e5}{s:ae}{o i v:af}{apq id:fS}{b:Builtin}{Q:17e3}(x:s.kH o apq)(p:seqItemTypes.hU apq=false)(S:ow apq "__setitem__" id)(k:mV lJ id=G b)(hd:dL.wv.hU id=false)(r:kG id (61 [o,i,v]))
  (h:134 A.fg (b (61 [o,i,v])) (λf s'=>match f with| .kx (.bk _)=>Q () s'|_=>fR) E s):134 A (sx o i v) Q E s:=by
 unfold sx;show dh (eP (ags x p ?_));show 27e5;unfold Ax;show fe (iP x S.bZ λa=>?_);simp only[S.cr];show dh (181 (aZ (rh (JM S.ti hd k (S.check _ _ _ _ _ _ _ _ x r ?_)))));show eW h (λf s' e=>?_) λa a z=>z;rcases f with(v|_|_|_)|c
 all_goals first|exact bH (bH e)|exact e.ak
def Mo{α:Type}(l m:8e4)(lo s:8e5):(bW l lo s m).U<=l.U+m.U:=by
 unfold bW;rw[D.hM,D.hM,D.qQ,D.sf,I.TQ];exact I.TR (I.dW (I.agt (I.sub_le_sub_left (I.dW (I.K1 ..) (I.le_max_left ..)) _) _) (I.hZ (I.agu (I.Sd ..)))) _
section
variable{bc:gR}{w:eA}{A:dg}{E:af->ae->Prop}{s:ae}
def agv{a sl b:aI}{us r:2e4}{u q:af}{lo p:8e5}{Q:17e3}(l:s.M.j8 a 29e5)(hs:s.M.rE sl u q .L)(app:la u lo)(S:la q p)(m:151 b r)(R:b≠a)(hz:us.U+r.U<=16777216)
  (h:∀h',h'.j8 a ⟨bW us lo p r⟩->166 a h'->157 ()):41 (sx 2e2 29e7 (.N b)):=by
 have z:=l;(show oE l λn i=>?_;try clear l);show gD (id m) λob g apq V f=>?_;have o:s.kH 2e2 "list" :=(51 i);show dV (id hs) λos v t j=>?_;have c:s.kH 29e7 "slice" :=⟨os,v,t⟩;unfold sx;show nA (bg (ags o aq ?_));show bg (w8 (gf:=am.ph "__setitem__") o PySem.apu.agw
  (nw PySem.apu.agw o PySem.apu.entry_list_setitem ?_ (PySem.apu.args_list_setitem_3 _ _ _)))
 refine aY _ _ (Builtin.D.agx 29e7>>=_) _ _ s;show 23e7;unfold Builtin.D.agx;show cL (iP c abM λk=>?_);show bX (a:=L) ?_;refine aY _ _ (pX 29e7>>=_) _ _ s;show cL (th c λk=>?_);show 35e1 <|?_;refine aY _ _ (Builtin.D.listSliceParts 29e7>>=_) _ _ s;rw[listSliceParts_eq];show 167 (hF v j (x:= .L) H (bg (TS .L ?_)));rw[d6 (413 ((uT L==iC 0)=true))];show bg (hF v j (x:=u) H (bg (TS app ?_)));show bg (hF v j (x:=q) H (bg (TS S 20e3)));have P:¬(Builtin.D.P6 2e2 (.N b)=true):=by
  refine¬((a==b)=true);rw[AB];exact λe=>R e.bi
 show kY P <|?_;show 23e7;unfold Builtin.D.listAllItems;show cL (th m.mX λk=>?_);show pb aq <|?_;unfold Builtin.D.Qa;show bg (AJ g f 20e3);show cL (bg (AJ i H (bX λk=>?_)));show cL (gt (Pt lo p L us.U (λe=>19e2)) λk=>?_);have m:sliceBounds lo p L us.U=(50e5,((p.ak us.U (kL us.U):I):K),1):=afT ..;rw[m];dsimp-fs only;show pb cI <|?_;show cL (ny λk=>?_);have d:¬(Builtin.D.Lo ((188 us)+(188 r))=true):=by
  unfold Builtin.D.Lo;rw[BP,f0];refine¬(us.U+r.U>_);exact I.dv.bn hz
 show kY d <|?_;have apA:=Mo us r lo p;have eg:=Mm z (λxs=>xs.oX 0 (50e5).aJ++bP.mk r++xs.oX (jo 50e5 ((p.ak us.U (kL us.U):I):K)).aJ xs.an);have e:=Sb us r lo p;show bg (AH i H ?_ (by rw[f0];refine us.U<=_;exact I.Rq hz) ?_)
 ·show bg (PV (bX ⟨_,H,bX (h _ ?_ (ai.fy.eM ..))⟩));rw[<-e];exact eg
 ·show I.dW (I.hZ (bC bP.an e)) ?_;refine(bW us lo p r).U<=_;rw[f0];lia
universe e
def aH.mono{α β:Type}{x:Fx}{J:aW}{s:ae}{r:3e3}{br:17e8}{Q e:12e2}{EE:0e5}(P:27e7)(h:∀u s',Q u s'->e u s'):99 r br e:=by
 cases r with
 |aT a F ob=>exact⟨P.1,λm s' u R apv r=>h _ _ (P.2 m s' u R apv r)⟩
 |a8=>exact P
 |no=>exact P.ak
def agy(lo s:8e5)(r:82 l)(x:cx J h m ms):cx J h (bW l lo s m) (bW us lo s ms):=by
 unfold bW;rw[iw r];exact((r.fG _).lV x).lV (r.fh _)
def agz{h:ai}{a:aI}{b:4e9}(e:14e4=15e1):∀q,14e4=G q->iu q=false:=by
 intro q s;rw[e]at s;cases s;rfl
section
variable{x:Fx}{J:aW}{F:MS}{s:ae}{Q:ey->ae->Prop}{EE:af->ae->Prop}
def TU{d k:I}{q:9e3}{b m:4e9}{u r v:af}{lo h:8e5}{sl:aI}(Y:3e6)(R:0e9)(l:F.dM k=G (.eF b))(n:J[k]? =G q)(w:(∃tk,u= .iQ ⟨m⟩ tk/\m.U<=16777216)\/(∃c,u= .N c/\c≠q.1/\37e1=281 m))
  (hS:s.M.rE sl r v .L) (p1:la r lo) (p2:la v h) (P:203 ((gu (b.U+m.U) true F).aF λf F=> 161 () k (.eF (bW b lo h m)))):25 (sx (.N q.1) 29e7 u):=by
 show oA (sj P) λhz P=>?_;show hT (R.O k _ q l n) λqq o a=>?_;have p:=Mo b m lo h;show agr (apq:= "bytearray") (51 a) aq BA.abz BA.abC 10e1 (BA.abH _ _ _) ?_;show afR (A:=x.A.fg) Y.j5 a hS p1 p2 w (by exact I.dW p hz) λs' e j z g o'=>?_;have apA:=R.Sk (s':=s') (o':= .eF (bW b lo h m)) n (D.dQ ..) (λc oc i e=>j c oc i e) (agz a) (λk=>⟨qq,by exact I.dW p hz,e⟩) g o';exact 266 d2
def agA(Y:3e6)(R:0e9)(apE:17 o uo)(S:Cn J s.M p up)(r:15e7)(P:203 (xz F o p.1 p.2 v)):
  25 (sx uo up u):=by
 (show kX S λsl E apr apD w r1 r2=>?_;try clear S;subst apD);induction apE using RV.cE with
 |Z k q h=>
  have g:cy J q.1:=⟨q,D.ja h,D.dQ ..⟩;show eD P λob j P=>?_;cases ob with
  |az l t=>
   show gp (R.O k _ q j h) λqq apx aP V W=>?_;have P:203 (gS p.1 p.2 65 λx app u=>match v with
    | .ad m t'=>(gu (l.U+m.U) (t||u||t') F).aF λz F=> 161 () k (.az (bW l x app m) (t||u||t'))
    |_=> .no 65):=P
   show ug P λlo n t' e P=>(uf r1 r2 e).ak λp1 a=>?_;clear e;induction r using RV.cE with
   |ad m A c B i f C apq=>
    show oA (sj P) λhz P=>?_;have h1:=iw W;have h2:=iw apq;have apu:=Mo l m lo n;show aM.of (agv V w p1 a i (λe=>by subst e;exact f g) bN λh' apw hs=>?_);have apA:=R.m9 (o':= .az (bW l lo n m) (t||t'||A)) (h':=h') h (D.dQ ..) hs (tZ V.iG) (λk=>⟨qq,bN,_,apw,agy lo n (hK k W) (hK k apq)⟩) s.a1;exact 266 d2
   |_=>exact P.ak
  |eF b=>
   have P:203 (gS p.1 p.2 67 λx app z=>match v with
    | .ch m=>(gu (b.U+m.U) true F).aF λz F=> 161 () k (.eF (bW b x app m))
    | .ei m=>(gu (b.U+m.U) true F).aF λz F=> 161 () k (.eF (bW b x app m))
    |_=> .no 67):=P
   show ug P λlo n t' e P=>(uf r1 r2 e).ak λp1 a=>?_;clear e;induction r using RV.cE with
   |ch m tk hm=>exact TU Y R j h (.a4 ⟨tk,H,hm⟩) w p1 a P
   |ei m c i f hm=>exact TU Y R j h (.aE ⟨c,H,λe=>by subst e;exact f g,i⟩) w p1 a P
   |_=>exact P.ak
  |_=>exact P.ak
 |_=>exact P.ak
def agB(e:nW)(R:0e9)(a:17 o uo)(r:15e7)(P:203 (qC F o n v)):96 (Tq uo 4e6 u):=by
 induction a using RV.cE with
 |Z i q b=>
  show eD P λob p P=>?_;cases ob with
  |bv C dd=>exact afN R (fU P λh k=>e.1 _ _ (48e3).2) b p r P
  |_=>exact P.ak
 |_=>exact P.ak
universe e
def PA(ih:Ih)(d:I)(h:cD)(k:I)(apq:PySem.a0)(t:Internal.apq):Prop:=
 ∀(v:V) (F:MS) (x:Fx) (J:aW) (s:ae) (u:af) (Q:17e3) (EE:0e5),3e6->x.ab.bt=h->x.fz=false->0e9->15e7->203 (jO ih k t v F)->
  25 (rF apq x.ab u)
section
variable{ih:Ih}{d k:I}{sc:cD}
def Co{id:am}{n:I}(a:id=4e6)(h2:(146 sc id||eu sc id .dm)=true):PA ih d sc (k+1) (172 aU) (.n n):=by
 intro v F x J s u Q EE Y e hz R r P;have P:203 (.Y () (F.fv n v)):=P;show 23 (agC ..);show 44 (aM.of (Mk Y (λm=>hz) R r a ?_ λh' t b p=>P.bk b p d2));rcases al.tR.mp h2 with h|h
 ·exact .a4 (lY h e)
 ·exact .aE (lY h e)
def agD{aps:PySem.a0}{h:apw}{n:I}{aU:dA}(a:nW)(w:PX ih d sc aps h):PA ih d sc (k+1) (.kM aps 4e6 aU) (.a h n):=by
 intro v F x J s u Q EE Y p hz R r P;have P:203 ((86 h) λo F=>qC F o n v):=P;show 23 (agE ..);show 90 (w F x J s _ EE Y p R (P.aF λo aS q s1 u1 e m r1 b=>?_));show 44 (183 (agB a e r1 (R.rv m r) (b.mono λj i h2=>?_)));exact aM.of (vH h2)
def agF{aps apy:PySem.a0}{a e:apw}{aU:dA}(j:PX ih d sc aps a)(c:PX ih d sc apy e):PA ih d sc (k+1) (.qH aps apy aU) (.s a e):=by
 intro v F x J s u Q EE Y p hz R r P;have P:203 (27e8 λo F=>13e4 λi F=>Kk F o i v):=P;show 23 (agG ..);show iJ (dh (j F x J s _ EE Y p R (P.aF λo aS f s1 u1 h n r1 m q=>?_)));show 90 (c aS x _ s1 _ EE Y p h (m.aF λi du m2 t u2 w b r2 l=>?_));show 44 (183 (agk w (h.rv b r1) r2 (h.rv b (R.rv n r)) (l.mono λq app h3=>?_)));exact aM.of (vH h3)
def agH{aps:PySem.a0}{e:apw}{apt apA:41e9}{lo h:ar apw}{app aU:dA}(t:PX ih d sc aps e)(q:PO ih d sc apt lo)(l:PO ih d sc apA h):PA ih d sc (k+1) (.qH aps (.r0 apt apA L app) aU) (.sl e lo h):=by
 intro v F x J s u Q EE Y n hz R r P;have P:203 (13e4 λo F=>(lT ih lo F).aF λlo F=>(lT ih h F).aF λh F=>xz F o lo h v):=P;have eq:(13e4 λa F=>(vR ih lo h F).aF λp F=>xz F a p.1 p.2 v)=13e4 λo F=>(lT ih lo F).aF λlo F=>(lT ih h F).aF λh F=>xz F o lo h v:=by
  congr 1;funext a F;unfold vR;rw[yj];congr 1;funext lo F;rw[yj];congr 1;funext h F;exact qY ..
 rw[<-eq]at P;show 23 (agG ..);show iJ (dh (t F x J s _ EE Y n R (P.aF λo aS g s1 u1 b f r1 j w=>?_)));show iJ (dh (TN q l aS x _ s1 _ EE Y n b (j.aF λi du m2 S u2 c m r2 z w=>?_)));show 44 (90 (agA Y c (b.rv m r1) r2 (b.rv m (R.rv f r)) (z.mono λw apq h3=>?_)));exact aM.of (vH h3)
universe e
def qZ:PySem.a0->al
 | .Starred .. =>false
 |_=>true
def Cp{α:Type}(t:9e4):29e6:=if h:t.cf=0 then b5.b9.ak (wD:=λs=>29e6) t h G else L
def agI{α:Type}{t:9e4}{a:α}(h:Cp t=11e3):t= .b9 a:=by
 by_cases k:t.cf=0
 ·exact b5.b9.ak (wD:=λt=>Cp t=11e3->t= .b9 a) t k (λb h=>bC _ 52e7) h
 ·unfold Cp at h;rw[dif_neg k]at h;exact nS h
def yB(s:cD)(apq V:PySem.a0):ar (ar (D am)):=Cp (agJ [apq] V {(nt:ez)with bt:=s})
def Mp{s:cD}{apq V:PySem.a0}{r:ar (D am)}{ab:ez}(h:yB s apq V=G r)(x:ab.bt=s):agJ [apq] V ab=b9 r:=by
 subst x;exact agI h
def vS(T:0e1)(l:0e1):0e1:=l.iT (λT p=>fv T p.1 p.2) T
def TV{a b:I}(h:a≠b):I.bY a b=false:=by
 cases q:I.bY a b with
 |false=>rfl
 |true=>exact bM 42e8 h
def TX(l:0e1)(k:I)(s:(l.aj (·.1)).dT):∀T,19 (vS T l)=(19 l).or 19e1:=by
 induction l with
 |aR=>exact λT=>rfl
 |aQ p l ih=>
  intro T;show oA (D.jd.mp s) λh1 h2=>?_;show(ih h2 (fv T p.1 p.2)).aV ?_;rw[sw];refine _=(match I.bY p.1 k with|true=>37e7|false=>19 l).or _;by_cases q:k=p.1
  ·rw[eX q,q,I.qJ];cases z:lk l p.1 with
   |L=>rfl
   |G v=>exact bM (D.ox (iW z)) h1
  ·rw[d6 q,TV (Ne.bi q)]
def TY{l:0e1}{k:I}{v:V}(s:(l.aj (·.1)).dT)(h:(k,v)∈l):19 l=2e5:=by
 induction l with
 |aR=>exact nomatch h
 |aQ p l ih=>
  show oA (D.jd.mp s) λh1 h2=>?_;rw[nQ];rcases D.eR.mp h with e|h
  ·rw[<-e,I.qJ];rfl
  ·rw[TV λ(e:p.1=k)=>h1 (by refine p.1∈_;rw[e];exact D.ox (f:=(·.1)) h)];exact ih h2 h
def agK{l:0e1}(s:(l.aj (·.1)).dT)(k:I):19 l.er=19 l:=by
 have hr:(l.er.aj (·.1)).dT:=by rw[D.Mq,D.dT,D.agL];exact s.f5 Ne.bi
 cases q:lk l k with
 |G v=>exact TY hr (D.AE.bn (iW q))
 |L=>
  cases z:lk l.er k with
  |L=>rfl
  |G v=>
   have:=TY s (D.AE.mp (iW z));rw[q]at bb;cases bb
def aK.agM{x:Fx}{J:aW}{O:1e0}{T mH:0e1}{bG:2e1}{s:ae}(R:160 (62 bG))(h:∀k,19 mH=19e1):160 (198 mH bG):=by
 show⟨R.d8,R.cU,R.O,R.nd,R.gy,R.up,⟨?_,λk v a b=>200 k v ((h k).bi.aV b)⟩,R.bI,R.hJ,R.b3,R.hj,R.gz,R.fx,R.dD,R.os,R.cW⟩;obtain⟨m,e,hm⟩:=R.bq.iN;exact⟨m,e,λk v a b=>hm k v a ((h k).bi.aV b)⟩
section
variable{x:Fx}{J:aW}{s:ae}{Q:ey->ae->Prop}{EE:af->ae->Prop}
def agN{d:I}(Y:3e6)(hz:x.fz=false):∀{ns:D I} {vs:0e0} {us:2e4} {F:MS} {s:ae},ns.U=vs.U->(∀n∈ns,x.ab.dB 4e6=12e3)->0e9->169 vs->
  (∀h' t,241 ⟨F.O,vS F.T (ns.fw vs),F.bG⟩ t->32e3->156 () t)->96 (Mr ((ns.aj nm).aj λn=>Ml x.ab n) us):=by
 intro ns;induction ns with
 |aR=>
  intro vs us F s e _ R r h;cases r with
  |aR=>exact bX (h s.M s.a1 R (Kp.b8 ..))
  |aQ=>cases e
 |aQ n ns u=>
  intro vs us F s e a R r h;cases r with
  |aR=>cases e
  |aQ r q=>
  show PyProof.Rows.assignInOrder_cons ?_;show Mk Y (λi=>hz) R r H (.a4 (a n (D.dQ ..))) λh' t w b=>?_;have k:=R.eH b;rw[D.dZ]at k;show u (by simpa using e) (λm hm=>a m (54 hm)) w (hK k q) λh2 t2 v p=>h h2 t2 v ?_;have:=b.aV (296 p);exact bb
universe e
section
variable{ih:Ih}{d k:I}{sc:cD}
def TZ{vs:0e0}{ns:D I}:∀{vs:0e0} (F:MS),ns.U=vs.U->qE (jO ih (k+1)) (ns.aj apq.n) vs F= .Y () ⟨F.O,vS F.T (ns.fw vs),F.bG⟩:=by
 induction ns with
 |aR=>
  intro vs F h;cases vs with
  |aR=>rfl
  |aQ=>cases h
 |aQ n ns s=>
  intro vs F h;cases vs with
  |aR=>cases h
  |aQ v vs=>
   refine(R.Y () (F.fv n v)).aF _=_;rw[qY];exact s (F.fv n v) (I.hG.cF h)
def yC{apq:PySem.a0}{s:10e4}{ab:ez}(h:44e1=true):vT (apq::s) ab=(false,rF apq ab)::vT s ab:=by
 cases apq<;>first|rfl|cases h
def agO:∀{e:10e4} {ts:50e8} {vs:0e0} {us:2e4},cJ (λapq t=>44e1=true/\PA ih d sc k apq t) e ts->ts.U=vs.U->∀(F:MS) (x:Fx) (J:aW) (s:ae) (Q:17e3) (EE:0e5),3e6->x.ab.bt=sc->x.fz=false->0e9->169 vs->
  203 (qE (jO ih k) ts vs F)->25 (Mr ((vT e x.ab).aj (·.2)) us):=by
 intro e ts vs us apz;induction apz generalizing vs us with
 |aR=>
  intro a F x J s Q EE Y b hz R r P;cases r with
  |aR=>exact 273 d2
  |aQ=>cases a
 | @aQ apq t e ts h hs j=>
  intro a F x J s Q EE Y b hz R r P;have q:=h.1;have h:=h.2;cases r with
  |aR=>cases a
  | @aQ v u vs us r i=>
  have P:203 ((jO ih k t v F).aF λp F=>qE (jO ih k) ts vs F):=P;rw[yC q];refine aM _ _ (do gq us (rF apq x.ab u);Mr ((vT e x.ab).aj (·.2)) us) Q EE s;show 90 (h v F x J s u _ EE Y b hz R r (P.aF λp aS l s1 p m w p n=>?_));exact j (by simpa using a) aS x _ s1 Q EE Y b hz m (R.Rp w i) n
def agP{s:10e4}{ts:50e8}{ab:ez}(apz:cJ (λapq t=>44e1=true/\PA ih d sc k apq t) s ts):(vT s ab).U=ts.U/\(vT s ab).L7 (·.1)=L:=by
 induction apz with
 |aR=>exact 15e2
 |aQ h _ x=>
  rw[yC h.1];exact⟨bC (· +1) x.1,by rw[D.afF,x.2];rfl⟩
def T3{p:10e4}{ts:50e8}{c}{aU:dA}(h:cJ (λapq t=>44e1=true/\PA ih d sc k apq t) p ts):PA ih d sc (k+1) (.kh p c aU) (.t ts):=by
 intro v F x J s u Q EE Y j hz R r P;induction r using RV.cE with
 |X vs a aP i z q=>
  show fU P λl P=>?_;have m:=I.fZ l;have app:=q.cU;show oA (agP (ab:=x.ab) h) λe1 e2=>?_;show 23 (arm_assign_Tuple ..);show 25e5;unfold unpack;rw[e1,e2,<-m,<-app];show 183 (PyProof.Rows.agQ (aP:=32e4) Y.e8 i λh' f=>?_);have w:∀b o,8e8=0e4->11e8=0e4:=λb o e=>f b o 42e2 e;have E:=R.jw w s.a1;have n:=P.qM (s1:=35e9) E.2;rw[D.dZ]at n;exact agO h m.bi F x J _ Q EE Y j hz E.1 (hK (jc w) q) n
 |_=>exact P.ak
universe e
def agR{α β:Type}{l:8e4}{m:D β}(h:l.U=m.U):l.er.fw m.er=(l.fw m).er:=by
 refine D.zipWith kC.mk l.er m.er=(D.zipWith kC.mk l m).er;rw[D.reverse_zipWith h]
def T4{apB:iz}{A:dg}{E:0e5}{s:ae}{n:fS}{Q:17e3}(h:Q () s):29 (pe n):=aM.of (ny h)
section
variable{ih:Ih}{d k:I}{sc:cD}{F:MS}
def agS{apq E:PySem.a0}{t:Internal.apq}{e:apw}{aU:dA}(h:PX ih d sc E e)(q:PA ih d sc k apq t)(hs:44e1=true)(w:vQ E=true)(p:yB sc apq E=G L):
  JS d sc (.pO [apq] E aU) F (132 13e4 (m0 (jO ih k t v F))):=by
 intro x J s Q EE Y a hz c R P;show 54e9;show 25e5;rw[show Mt [apq] E aU.iF x.ab=TC E (G apq) aU.iF x.ab from H,Cm w];show 29e2;rw[d6 aq];show aZ (h F x J s _ EE Y a R (P.aF λv aS j s1 u1 r l r1 m=>?_));rw[Mp p a,yC hs];show 29e2;refine aM _ _ (do rF apq x.ab u1;b9 .bA) Q EE s1;show aZ (q v aS x _ s1 u1 _ EE Y a hz r r1 (m.aF λb du m2 o b n i b u=>?_));exact bH (u.fJ n .bA)
def agT{w m:10e4}{ns:D I}{c c' Cq Mu aU}(h:PX ih d sc (.kh m c Cq) e)(S:yB sc (.kh w c' Mu) (.kh m c Cq)=G (G (ns.aj nm)))(W:ns.dJ (λn=>146 sc 4e6)=true)(l:ns.dT):
  JS d sc (.pO [.kh w c' Mu] (.kh m c Cq) aU) F (132 13e4 (m0 (jO ih (k+2) (.t (ns.aj .n)) v F))):=by
 intro x J s Q EE Y i hz apu R P;show 54e9;show 25e5;rw[show Mt [.kh w c' Mu] (.kh m c Cq) aU.iF x.ab=42e5 from H];show 29e2;rw[d6 aq];show aZ (h F x J s _ EE Y i R (P.aF λv aS q s1 u1 apD B r1 r=>?_));rw[Mp S i];show 29e2;induction r1 using RV.cE with
 |X vs a aP apE C z=>
  have r:aH x (J++q) s1 (m0 (251 vs.U (ns.aj apq.n).U 105 (qE (jO ih (k+1)) (ns.aj .n) vs aS))) RF Q EE:=r;cases j:I.bY vs.U (ns.aj apq.n).U with
  |false=>rw[j]at r;exact r.ak
  |true=>
   rw[j]at r;have p:=I.fZ j;rw[D.fq]at p;have A:=z.cU;have r:aH x (J++q) s1 (m0 (qE (jO ih (k+1)) (ns.aj .n) vs aS)) RF Q EE:=r;rw[TZ (k:=k) (vs:=vs) aS p.bi]at r;have r:aH x (J++q) s1 ((Internal.R.Y () ⟨aS.O,vS aS.T (ns.fw vs),aS.bG⟩).aF λapr F=> 24e8) RF Q EE:=r;rw[qY]at r;refine aM _ _ (do pe "assign.swapped-stores";let aP<-unpackItems 2e2 (ns.aj nm).U L;Mr ((ns.aj nm).er.aj λn=>Ml x.ab n) aP.er;b9 .bA) Q EE s1;show aZ (T4 ?_);rw[D.fq,<-p,<-A];show 164 (PyProof.Rows.agQ (aP:=32e4) Y.e8 apE λh' apw=>?_);have app:∀b o,s1.M.ao b=0e4->11e8=0e4:=λb o e=>apw b o 42e2 e;have E:=apD.jw app s1.a1;have t:=r.qM (s1:={s1 with M:=h'}) E.2;rw[D.dZ]at t;show 27e5;rw[<-D.Mq];have apA:=cJ.rev (hK (jc app) z);show aM.of (agN Y hz (by rw[D.lx,D.lx,p]) (λn hm=>lY (D.ib.mp W n (D.AE.mp hm)) i) E.1 apA λh2 t2 f g=>32e6);rw[agR p.bi]at f;have u:((ns.fw vs).aj (·.1))=ns:=by rw[D.map_fst_zip (I.hZ p.bi)]
   have V:=f.agM (mH:=vS aS.T (ns.fw vs)) λk=>by
    rw[TX _ _ (by rw[u];exact l),TX _ _ (by rw[D.Mq,u,D.dT,D.agL];exact l.f5 Ne.bi),agK (by rw[u];exact l)]
   exact t.bk V g .bA
 |_=>exact r.ak
universe e
set_option backward.match.sparseCases true
section
variable{bc:gR}{w:eA}{A:dg}{E:af->ae->Prop}{s:ae}{R:md->ae->Prop}
def agU
  (h:aY (bh bc w) A (oz it) (λr b=>match r with
   |L=>218 .bA b
   |G v=>272 w A (AC iR it v) (λa b=>134 A (rF iR ab v) (λa n=>134 A (mh cX ab) (λf m=>match f with
     | .bA| .zG=>95 A (.Mv iR it cX [] ab) R m
     | .brk=>218 .bA m
     | .bk v=>332 v m) (j4 6e2 A ab 14e7) n) (j4 6e2 A ab 14e7) b) (j4 6e2 A ab 14e7) b) (j4 6e2 A ab 14e7) s):95 A (.Mv iR it cX [] ab) R s:=by
 show mf H ?_;refine aM _ _ (408 (forTurn iR it cX [] ab)) _ _ s;show zw ?_;simp-fs only[forTurn];show eP (pr (eP (acO (hV h (λr b k=>?_) λa a h'=>pr h'))));cases r with
 |L=>exact bH ⟨H,OE (aM.of (zJ k))⟩
 |G v=>
  show 147 k (λa b k=>?_) 26e8;show aZ (eW k (λa n q=>aZ (eW q (λf m p=>?_) 26e8)) 26e8);cases f with
  |next=>exact bH (238 p)
  |zG=>exact bH (238 p)
  |brk=>exact bH p
  |bk v=>exact bH p
def T7:D fS:=["enumerate", "zip", "dict_itemiterator", "dict_reverseitemiterator", "odict_iterator", "itertools.zip_longest", "itertools.pairwise"]
def Mw{Q:17e3}(x:s.M.ao r=0e4)(e:o.bj= .aB n)(b:T7.hU n=false)(h:Q () s):
  41 (AC iR (.N r) v):=by
 obtain(⟨oc,p,dd,sl⟩):=o;dsimp-fs only at e;subst e;have cR:aY 6e2 A (do
  let(.N r,.N a):=(af.N r,v)|return
  let o<-zK r
  match o.bj,o.bf with
  | .aB n,.cp vs=>
   if T7.hU n&&vs[0]? ==G (iC a)then
    pe "for.unpacks-the-owned-tuple"
    updateField r 0 .L
  |_,_=>b9 ()) Q E s:=by
  cases v<;>first|exact bX h|skip
  show cL (rm x λk=>?_);clear x;cases dd<;>first|exact bX h|skip
  dsimp only;rw[b,al.false_and,d6 al.lK];exact 22e3
 cases iR<;>first|exact cR|exact bX h
universe e
section
variable{x:Fx}{J dC aC:aW}{F:MS}{s:ae}{h0 h':ai}
def uh(o:aA):Prop:=(∀xs n,o.bf≠ .cH xs n)/\(∀b n,o.bf≠ .qr b n)/\(∀w,o.bf≠ .dm w)/\iu o=false
def T8(hd:o.bf= 27e1)(x:o.bj= .aB n)(h:n≠ "code"):uh o:=by
 show⟨λs s e=>?_,λs s e=>?_,λs e=>?_,?_⟩
 ·rw[hd]at e;cases e
 ·rw[hd]at e;cases e
 ·rw[hd]at e;cases e
 ·unfold iu;rw[hd,x];refine(_==_)=false;exact sd.bn h
structure o5(x:Fx)(J:aW)(h:ai)(a:aI):Prop where
 d3:¬cy J a
 fr:¬fr x a
 fa:¬FA x a
 jY:lr<=a
 cp:∀o,h.ao a=G o->uh o
def aK.hN(R:0e9){wr:11e9}(h:∀a∈wr,o5 x J s.M a)(i:∀b o,b∉wr->8e8=0e4->11e8=0e4)(k:I):241 F k:=by
 have tk:jr s.M h':=λb q e t=>i b q (416 ((h b z).cp q e)) e;have bS:f8 J J s.M h':=by
  show⟨λb aP e=>?_,λb aP e no=>?_,λb apD n e no=>?_,λS p e=>⟨p,e,H⟩,λS S=>jr.dH tk⟩
  ·show gD e λo e c n dd=>?_;exact⟨o,i b o (λz=>((h b z).cp o e).1 _ _ dd) e,c,n,dd⟩
  ·show gD e λo e c n dd=>?_;exact⟨⟨o,i b o (λz=>((h b z).cp o e).1 _ _ dd) e,c,n,dd⟩,no⟩
  ·exact⟨i b _ (λz=>((h b z).cp _ e).2.1 _ _ H) e,no⟩
 show⟨λq P=>i _ _ (λz=>?_) (R.d8 q P),R.cU,λj o q e1 e2=>?_,R.nd,R.gy,λb f=>?_,⟨?_,λk v a b=>?_⟩,R.bI,R.hJ,R.b3,λz n c apA=>?_,λl app e apq=>?_,R.fx,R.dD,R.os,tk.Y R.cW⟩
 ·have h1:=D.ib.mp (BW x.w.bV) q P;exact 31 (I.si.mp h1) (h _ z).jY
 ·exact se bS (λb f V e=>i b V (λz=>(h b z).d3 ⟨q,D.ja e2,f⟩) e) (R.O j o q e1 e2)
 ·show oE (R.g5 f) λq e=>?_;exact ai.cQ (i b q (λz=>(h b z).d3 f) e)
 ·obtain(⟨m,⟨o,es,ep,e,r⟩,hm⟩):=R.bq.iN;show(312 ⟨o,es,ep,i _ o (λz=>(h _ z).fr 2e6) e,r⟩);show aN (hm k v a b) λu e1 r1=>?_;exact⟨u,e1,34e9⟩
 ·obtain(⟨c,u,e1,⟨o,e2,g⟩,r1,no⟩):=200 k v b;exact⟨c,u,e1,⟨o,i c o (λz=>((h c z).cp o e2).2.2.1 _ g) e2,g⟩,34e9,no⟩
 ·show gd (R.hj z n c apA) λw o e d=>?_;exact⟨w,o,i c o (λq=>(h c q).fr (247 z n apA)) e,d⟩
 ·obtain(⟨apw,apt,o,f1,f2,es,n,W⟩):=R.gz l app e apq;exact⟨apw,apt,o,f1,i apt o (λq=>(h apt q).fa ⟨l,app,e,apq,f1⟩) f2,es,n,W⟩
def Kp.hN(apv:56 dC x h0 s.M){wr:11e9}(m:∀a∈wr,46e4=L)(h:∀b o,b∉wr->8e8=0e4->11e8=0e4):56 dC x h0 h':=by
 have p:∀b o,h0.ao b=0e4->b∉wr:=λb o e z=>224 (m b z) e;show⟨λa o e t f g k=>h a o (p a o e) (apv.bS a o e t f g k),λa o e f g=>?_,λa o e t n=>h a o (p a o e) (apv.iV a o e t n),λa o e=>?_,apv.fk⟩
 ·show aN (apv.js a o e f g) λo' e1 r=>?_;exact⟨o',h a o' (p a o e) e1,r⟩
 ·show oE (apv.g5 a o e) λo' e1=>?_;exact⟨o',h a o' (p a o e) e1⟩
universe e
set_option backward.match.sparseCases false
inductive p9 (J:aW) (h:ai):oM->I->aI->Prop
 |ad (l ax aP k apy):h.gW ax ⟨aP⟩->¬cy J ax->cx J h l aP->h.Mx apy ax k->ax≠apy->p9 J h (.fA l) k apy
 |j6 (i p k apy):J[i]? =G p->h.Mx apy p.1 k->p.1≠apy->p9 J h (.j6 i) k apy
inductive My (J:aW) (h:ai):oM->I->aI->Prop
 |iL {s k apy}:p9 J h s k apy->My J h s k apy
 |X (l ax aP k apy):jk h ax ⟨aP⟩->cx J h l aP->xd h apy ax k->ax≠apy->My J h (.fA l) k apy
inductive sz (J:aW) (h:ai) (e:aI):oM->I->aI->Prop
 |iL {s k apy}:p9 J h s k apy->sz J h e s k apy
 |ba (b ax k apy):h.ao ax=G (fi b)->¬cy J ax->nz h apy ax k->ax≠apy->sz J h e (.fA (b.aj bB)) k apy
def T9(apB:iz)(A:dg)(h:ai)(z:aI)(wr:11e9):Prop:=(∃o n,h.ao z=0e4/\o.bj= .aB n)/\
 (∀(s:ae) (Q:12e4->ae->Prop) (E:0e5),(∀a∈wr,∀o,14e4=0e4->4e4=0e4)->(∀a aP,jk h a aP->jk s.M a aP)->(∀h' tk,(∀b o,b∉wr->8e8=0e4->11e8=0e4)->156 L tk)->67 (oz (.N z)))/\
 ∀(s:ae) (Q:0e5) (E:0e5),(∀a∈wr,∀o,14e4=0e4->4e4=0e4)->(∀a aP,jk h a aP->jk s.M a aP)->Q (.N z) s->67 (qu (.N z))
inductive jZ (x:Fx) (J:aW) (h:ai):It->I->aI->D aI->Prop
 |ej {s k apy}:My J h s k apy->jZ x J h (.ej s) k apy [apy]
 |gL {s} {k:I} {e apy hY}:u7 h e apy k hY->sz J h e s k apy->e≠apy->jZ x J h (.gL s) k e [e,apy]
 |dS {n k:I} {apy}:k<=n->IsRangeIter h apy k ((n:K)-k) 1->jZ x J h (.dS n) k apy [apy]
 |aR {k z wr}:T9 (bd x) x.A h z wr->z∈wr->jZ x J h .aR k z wr
def Wr(x:Fx)(J:aW)(h:ai)(wr:11e9):Prop:=∀a∈wr,o5 x J h a/\∃o,14e4=0e4
section
variable{x:Fx}{J aC:aW}{F:MS}{s:ae}{h h':ai}
def Wr.kj(W:Wr x J h wr)(R:0e9)(e:s.M=h)(apv:56 J x h h'):Wr x (J++aC) h' wr/\∀a∈wr,∀o,14e4=0e4->18e4=0e4:=by
 have il:∀a∈wr,∀o,14e4=0e4->18e4=0e4:=by
  intro a r o b;show oA (W a r) λA m=>?_;exact apv.bS a o b (A.cp o b).2.2.2 A.fa A.fr A.d3
 show⟨λa r=>?_,il⟩;show sN (W a r) λA o b=>?_;have p:=il a r o b;show⟨⟨λq=>?_,A.fr,A.fa,A.jY,λo' k=>?_⟩,o,p⟩
 ·rcases 46e3 with q|q
  ·exact A.d3 q
  ·exact nN ((323 q) b)
 ·rw[p]at k;cases k;exact A.cp o b
def p9.kj{k:I}{apy:aI}(S:p9 J h sc k apy)(s:f8 J (J++aC) h h')(b:∀o,h.ao apy=0e4->h'.ao apy=0e4):p9 (J++aC) h' sc k apy:=by
 cases S with
 |ad l m aP _ _ a no r it ne=>exact .ad l m aP _ _ (s.ad _ _ a no).1 (s.ad _ _ a no).2 (hK s r) (it.at b) ne
 |j6 i p _ _ e it ne=>
  show aN (s.Z i p e) λq n x=>?_;exact .j6 i q _ _ n (x▸it.at b) (x▸ne)
def jZ.kj(apq:jZ x J h it k iv wr)(p:f8 J (J++aC) h h')(m:∀a∈wr,∀o,14e4=0e4->18e4=0e4):jZ x (J++aC) h' it k iv wr:=by
 cases apq with
 |ej S=>
  have w:=m _ 28e6;cases S with
  |iL S=>exact .ej (.iL (S.kj p w))
  |X l u aP _ _ a r it ne=>exact .ej (.X l u aP _ _ (p.X _ _ a) (hK p r) ((by(show aN it λo q r=>?_;try clear it);exact⟨o,w o q,r⟩)) ne)
 |gL g S ne=>
  have f:=m _ (D.dQ ..);have w:=m _ (54 28e6);show .gL (f _ g) ?_ ne;cases S with
  |iL S=>exact .iL (S.kj p w)
  |ba b u _ _ a no it ne=>exact .ba b u _ _ (p.ei _ _ _ a no).1 (p.ei _ _ _ a no).2 ((by(show aN it λo q r=>?_;try clear it);exact⟨o,w o q,r⟩)) ne
 |dS z hr=>exact .dS z (m _ 28e6 _ hr)
 |aR apC hz=>
  (show hT apC λd apC app=>?_;(show gd d λo n q t=>?_;try clear d));exact .aR ⟨⟨o,n,m _ hz o q,t⟩,λs Q E hs j c=>apC s Q E (λa v o e=>hs a v o (m a v o e)) (λa i e=>j a i (p.X a i e)) c,λs Q E hs j c=>app s Q E (λa v o e=>hs a v o (m a v o e)) (λa i e=>j a i (p.X a i e)) c⟩ hz
def Cr(it:It)(apq:PySem.a0):Prop:=match it with
 | .gL _=>∃s k aU,apq= .kh s k aU
 |_=>ku
def Mz{l:0e0}{us:2e4}{k:I}(r:82 l)(e:l[k]? =L):us[k]? =L:=by
 rw[D.getElem?_eq_none_iff]at e⊢;rw[iw r];exact e
universe e
section
variable{x:Fx}{J aC:aW}{F:MS}{s:ae}{h h':ai}
def MA{wr:11e9}(r:∀a∈wr,o5 x J h a)(s:∀b o,b∉wr->h.ao b=0e4->11e8=0e4):f8 J J h h':=by
 show(422 ⟨p,e,H⟩ (s b q (416 ((r b z).cp q e)) e))
 ·show gD e λo e c n dd=>?_;exact⟨o,s b o (λz=>((r b z).cp o e).1 _ _ dd) e,c,n,dd⟩
 ·show gD e λo e c n dd=>?_;exact⟨⟨o,s b o (λz=>((r b z).cp o e).1 _ _ dd) e,c,n,dd⟩,no⟩
 ·exact⟨s b _ (λz=>((r b z).cp _ e).2.1 _ _ H) e,no⟩
def Wr.to(W:Wr x J h wr)(r:∀a∈wr,∃o vs n,18e4=0e4/\o.bf= 27e1/\o.bj= .aB n/\n≠ "code"):Wr x J h' wr:=by
 intro a s;show oA (W a s) λA k=>?_;show kX (r a s) λo vs n e d c p=>?_;exact⟨⟨A.d3,A.fr,A.fa,A.jY,λo' b=>by rw[e]at b;cases b;exact T8 d c p⟩,o,e⟩
def nf{apy:aI}(hs:ai.fy apy h h'):∀b o,b∉ [apy]->h.ao b=0e4->11e8=0e4:=λb o s e=>hs.mq b o (λq=>s (by rw[q];exact 28e6)) e
def sz.Z{e:aI}{k:I}{apy:aI}(S:sz J h e sc k apy):∃o vs n,h.ao apy=0e4/\o.bf= 27e1/\o.bj= .aB n/\n≠ "code" :=by
 cases S with
 |iL S=>
  cases S with
  |ad l s aP _ _ x no r et ne=>(show dV et λo a b c=>?_;try clear et);exact⟨o,_,_,a,c,b,aq⟩
  |j6 i p _ _ m et ne=>(show dV et λo a b c=>?_;try clear et);exact⟨o,_,_,a,c,b,aq⟩
 |ba b s _ _ x no et ne=>(show dV et λo a b c=>?_;try clear et);exact⟨o,_,_,a,c,b,aq⟩
def Ua{d:I}(Y:3e6)(R:0e9){k:I}{e apy:aI}{hY:af}(W:Wr x J s.M [e,apy])(i:u7 s.M e apy k hY)(ne:e≠apy){c:V}(f:∃apA k aU,iR= .kh apA k aU){Q:12e4->ae->Prop}{EE:0e5}
  {fp:11e9} {n:I} {P:I->af->Prop} {St:I->ai->Prop} (apr:Draws pw x.w x.A.fg apy fp n P St) (fm:St k s.M) (MD:k<n) (Ub:e∉fp) (hv:∀app,P k app->17 c app) (mk:∀h2,f8 J J s.M h2->St (k+1) h2->sz J h2 e sc (k+1) apy)
  (h:∀u h1 t1,(∀(j:17e3) (apq:0e5),(∀h2,229 F (84 h2 t1)->RV J h2 (.X [0 k,c]) u->jZ x J h2 (.gL sc) (k+1) e [e,apy]->Wr x J h2 [e,apy]->(∀b o,b∉ [e,apy]->8e8=0e4->h2.ao b=0e4)->j () (84 h2 t1))->
   259 (AC iR 9e6 u) j apq (84 h1 t1))->Q (G u) (84 h1 t1)):96 (oz 9e6):=by
 show wpAny_pyNext_enum_itemD apr i fm MD ne Ub λapp h1 tk apE g apw A hz z=>h _ h1 (tk+1) λj apq t=>?_;clear h;(show nn f λapA E aU B=>?_;try clear f;subst B);show wpAny_letOwnedTupleGo_enum (s:=(349 h1 tk 1)) g λh2 l m=>?_;clear g;have S:e<s.M.O.an:=ai.cQ i;clear i;have v:∀b o,b∉ [e,apy]->8e8=0e4->h2.ao b=0e4:=λb o p w=>
  m.mq b o (λq=>p (by rw[q];exact D.dQ ..)) (z b o (λq=>p (by rw[q];exact D.dQ ..)) (λq=>p (by rw[q];exact 54 28e6)) w)
 clear z;have bS:=MA (λa r=>(W a r).1) v;have apD:=apr.ec _ _ _ apw λb p o w=>m.mq b o (λq=>Ub (q▸p)) w;have S2:=mk h2 bS apD;clear mk;have C:((k:K)+1)=49e1:=by exact K.ofNat_add_one_out k
 rw[C]at l;show t h2 (R.hN (λa r=>(W a r).1) v _) (.X _ _ [.y k tk,app] ⟨_,m.mq _ _ (I.vb S) A,H,_,H⟩ (by refine 2<=_;decide) (326 (.y ..) (dP bS (hv app apE)))) (.gL l S2 ne) (W.to λa r=>?_) v;clear S t W v m;rcases D.eR.mp r with H|r
 ·exact⟨_,_,_,l,H,H,aq⟩
 ·rw[45e1];exact S2.Z
def p9.at{k:I}{apy:aI}(S:p9 J s.M sc k apy)(R:0e9){r:9e5}(e:sc.at F k=G r):
  ∃l h aP,151 h aP/\cx J s.M l aP/\s.M.Mx apy h k/\h≠apy/\l[k]? =r/\∀h2,f8 J J s.M h2->h2.Mx apy h (k+1)->p9 J h2 sc (k+1) apy:=by
 cases S with
 |ad l h aP _ _ a no r et ne=>exact⟨l,h,aP,a,r,et,ne,11e6,λh2 b m=> .ad l h aP _ _ (b.ad _ _ a no).1 no (hK b r) m ne⟩
 |j6 i p _ _ n et ne=>
  show aN 31e0 λl e v=>?_;show aN 36e2 λo w e=>?_;show dV (aps.vC e (42 i w n)) λaP a r q=>?_;exact⟨l,p.1,aP,a.iG,r,et,ne,v,λh2 b m=> .j6 i p _ _ n m ne⟩
set_option tactic.hygienic true in
theorem Uc{d:I}(Y:3e6)(R:0e9){k:I}{j:aI}{wr:11e9}(apq:jZ x J s.M it k j wr)(W:Wr x J s.M wr){v:V}(e0:32e5=G 2e5)(E:Cr it iR){Q:12e4->ae->Prop}{EE:0e5}
  (h:∀u h1 t1,(∀(apD:17e3) (apr:0e5),(∀h2,229 F (84 h2 t1)->RV J h2 v u->jZ x J h2 it (k+1) j wr->Wr x J h2 wr->(∀b o,b∉wr->8e8=0e4->h2.ao b=0e4)->apD () (84 h2 t1))->
   259 (AC iR (.N j) u) apD apr (84 h1 t1))->Q (G u) (84 h1 t1)):96 (oz (.N j)):=by
 have aqe:x.A.e8=L:=Y.e8;cases apq with
 |ej S=>
  cases S with
  |iL S=>
   show sP (S.at R e0) λl m aP p r et ne i mk=>?_;show aN (r.dM i) λu f P=>?_;show wpAny_pyNext_list_item et p (x:=u) (by simpa using f) λh2 apw hs=>h u h2 s.a1 λapD apr apA=>?_;show dV (id apw) λo2 apE g apz=>?_;have w:=MA 46e5 (nf hs);show Mw (s:={s with M:=h2}) apE g aq (apA h2 (R.hN 46e5 (nf hs) s.a1) (dP w P) (.ej (.iL (mk h2 w apw))) 56e5 (nf hs));rw[D.cZ.mp p];exact⟨o2,_,_,apE,apz,g,aq⟩
  |X l m aP _ _ p r et ne=>
   show aN (r.dM (ar.G.cF e0)) λu f P=>?_;show PyProof.Rows.next_tuple_item et p (x:=u) (by simpa using f) λh2 apw hs=>h u h2 s.a1 λapD apr apA=>?_;show dV (id apw) λo2 apE g apz=>?_;have w:=MA 46e5 (nf hs);show Mw (s:={s with M:=h2}) apE g aq (apA h2 (R.hN 46e5 (nf hs) s.a1) (dP w P) (.ej (.X l m aP _ _ (w.X _ _ p) (hK w r) apw ne)) 56e5 (nf hs));rw[D.cZ.mp p];exact⟨o2,_,_,apE,apz,g,aq⟩
 | @gL sc _ e apy hY A S ne=>
  have aps:x.A.fg.e8=L:=aqe;show aN (ar.ha.mp e0) λo0 apu e0=>?_;(show aN (ar.ha.mp e0) λaqf ME apx=>?_;subst ME;subst apx);cases S with
  |iL S=>
   show sP (S.at R apu) λl m aP p r et B i mk=>?_;show aN (r.dM i) λu f P=>?_;have apt:j≠m:=λq=>by
    (show dV p λo e1 e2 zz=>?_;try clear p);rw[<-q,A]at e1;exact bM (show af.aB "enumerate" =51e4 from(bC aA.bj (ar.G.cF e1)).aV e2) aq
   show Ua Y R W A ne E (Draws.az aps apy m B 32e4) ⟨et,p⟩ (117 f) (by simp[ne,apt]) (λapp z=>?_) (λh2 w C=> .iL (mk h2 w C.1)) h;have z:aP[k]? =G app:=by simpa using z
   cases f.bi.aV z;exact P
  |ba b m _ _ p no et B=>
   have i:(b.aj bB)[k]? =G aqf:=ar.G.cF apu;clear apu;rw[D.nY]at i;(show aN (ar.ha.mp i) λc apB apx=>?_;subst apx);clear i;have apt:j≠m:=λq=>by
    rw[<-q,A]at p;exact bM (show af.aB "enumerate" =af.aB "bytearray" from bC aA.bj (ar.G.cF p)) aq
   show Ua Y R W A ne E (PZ aps apy m B b) ⟨et,p⟩ (117 apB) (by simp[ne,apt]) (λapp z=>?_) (λh2 w C=> .ba b m _ _ C.2 no C.1 B) h;clear E;(show gd z λc' t e1 MF=>?_;try clear z;subst MF);cases apB.bi.aV e1;exact .y ..
 |dS hk hr=>
  rename_i n;have e0:=ar.G.cF e0;cases apv:I.jN k n with
  |false=>rw[apv]at e0;exact nN e0
  |true=>
   rw[apv]at e0;have MD:=I.si.mp apv;cases ar.G.cF e0;show wpAny_pyNext_range_item hr bN λh2 apF hs=>h _ h2 (s.a1+1) λapD apr apA=>?_;clear h;show Mw (s:=(349 h2 s.a1 1)) apF H aq (apA h2 (R.hN 46e5 (nf hs) _) (.y ..) (.dS MD ?_) 56e5 (nf hs))
   ·have e1:49e1=(k:K)+1:=by exact I.BB.add_congr H H
    have e2:(n:K)-49e1=(n:K)-k-1:=bN;rw[e2,e1];exact apF
   ·rw[D.cZ.mp p];exact⟨_,_,_,apF,H,H,aq⟩
 |aR apC hz=>exact nomatch e0
universe e
section
variable{x:Fx}{J aC:aW}{F:MS}{s:ae}{h h':ai}
def Ud{bc:gR}{w:eA}{A:dg}{E:0e5}{e it:aI}{i:K}{hY:af}{Q:12e4->ae->Prop}(r:u7 s.M e it i hY)
  (done:∀(Q:0e5) (E:0e5),(∀h' e,ai.u6 it s.M h'->(∃o,43e0=0e4/\o.bj= 44e6)->E 9e6 35e9)->aY (bh bc w) A.fg (pq.tp 32e8) Q E s)
  (hQ:∀h',ai.u6 it s.M h'->157 L):41 (oz 9e6):=by
 have h:s.kH 9e6 "enumerate" :=(51 r);unfold oz;show bg (tl (389 h PySem.apu.agV
  (nw PySem.apu.agV h PySem.apu.entry_enumerate_next ?_ (PySem.apu.args_enumerate_next_1 _))))
 refine aY _ _ (ro 9e6 2>>=_) _ _ _;show cL (hF r H (x:= 32e8) H λn=>?_);show bg (done _ _ λh' x p a=>?_);(show aN a λo k m=>?_;try clear a);show bg (oy (apq:= "StopIteration") (b:=true) ⟨o,k,m⟩ P2 ?_);exact bX (hQ _ p)
def Ue{apy:aI}{wr:11e9}(s:apy∈wr)(hs:ai.u6 apy h h'):∀b o,b∉wr->h.ao b=0e4->11e8=0e4:=λb o x e=>hs b o (λq=>x (by rw[q];exact s)) e
def MG{d:I}(Y:3e6)(R:0e9){k:I}{f:aI}{wr:11e9}(apq:jZ x J s.M it k f wr)(W:Wr x J s.M wr)(e0:32e5=G L){Q:12e4->ae->Prop}{EE:0e5}
  (h:∀h2 t,229 F (84 h2 t)->(∀b o,b∉wr->8e8=0e4->h2.ao b=0e4)->Q L (84 h2 t)):96 (oz (.N f)):=by
 have w:x.A.e8=L:=Y.e8;have z:x.A.fg.e8=L:=w;have eg:∀{apy:aI} {h2},apy∈wr->ai.u6 apy s.M h2->Q L {s with M:=h2}:=λg hs=>h _ s.a1 (R.hN 46e5 (Ue g hs) _) (Ue g hs);cases apq with
 |ej S=>
  cases S with
  |iL S=>
   show sP (S.at R e0) λl u aP p r et ne m v=>?_;exact wpAny_pyNext_list_end w et p (by simpa using Mz r m) λh2 hs=>eg 28e6 hs
  |X l u aP _ _ p r et ne=>
   have m:l[k]? =L:=ar.G.cF e0;exact PyProof.Rows.next_tuple_end w et p (by simpa using Mz r m) λh2 hs=>eg 28e6 hs
 | @gL sc _ e apy hY apA S ne=>
  show aN (ar.ha.mp e0) λapw P e0=>?_;rw[ar.agW]at e0;subst e0;have app:apy∈ [f,apy]:=54 28e6;cases S with
  |iL S=>
   show sP (S.at R P) λl u aP p r et V m v=>?_;exact Ud apA (λQ E i=>wpAny_nextOf_list_end z et p (by simpa using Mz r m) i) λh2 hs=>eg app hs
  |ba b u _ _ p no et V=>
   have m:(b.aj bB)[k]? =L:=ar.G.cF P;rw[D.nY,ar.agW]at m;exact Ud apA (λQ E i=>PY z et p m i) λh2 hs=>eg app hs
 | @dS n _ _ c hr=>
  have e0:=ar.G.cF e0;cases j:I.jN k n with
  |true=>rw[j]at e0;exact apI e0
  |false=>
   have:¬k<n:=λq=>by rw[I.si.bn q]at j;exact nG j
   exact wpAny_pyNext_range_end w hr bN λh2 hs=>eg 28e6 hs
 |aR apC hz=>exact apC.2.1 s Q EE (λv v v e=>e) (λv v e=>e) λh2 t c=>h h2 t (R.hN 46e5 c t) c
universe e
def agX{α β:Type}{x:Fx}{J:aW}{s:ae}{r:3e3}{f:α->MS->R β}{br:199 β γ}{Q:137 γ}{EE:0e5}(P:11 (h9 34e4)):11 ((h9 r).aF λa F=>h9 (f a F)):=by
 cases r with
 |aT a F ob=>
  refine 11 ((h9 (f a F)).ci ob);have P:11 (h9 ((f a F).ci ob)):=P;cases q:f a F with
  |aT=>rw[q]at P;exact P
  |a8=>rw[q]at P;exact P.ak
  |no=>rw[q]at P;exact P.ak
 |a8=>exact P.ak
 |no=>exact P.ak
def agY{α β:Type}{x:Fx}{J:aW}{s:ae}{r:3e3}{br:17e8}{Q:12e2}{EE:0e5}(P:11 (h9 r)):27e7:=by
 cases r with
 |aT=>exact P
 |a8=>exact P.ak
 |no=>exact P.ak
def aH.MH{α β γ δ:Type}{x:Fx}{J aC:aW}{s s1:ae}{r:3e3}{f:α->MS->R γ}{br:17e8}{e:199 γ δ}{Q:12e2}{b:38e3}{EE:0e5}(P:99 34e4 e b)(p:69 aC s1.M)
  (apz:∀a du m2 h u,aK x (J++aC++m2) du h->Kp (J++aC) m2 x s1.M h.M->br (J++aC++m2) h.M a u->99 (f a du) e b->Q u h):aH x (J++aC) s1 r br Q EE:=by
 cases r with
 |aT a F ob=>exact⟨(26e9).1,λm2 s' u R apv r=>apz a F m2 s' u R apv r 26e3⟩
 |a8 a F ob=>
  have P:99 (.a8 a F ob:R γ) e b:=P;exact aH.qM (r:=(.a8 a F ob:3e3)) (br:=br) (Q:=Q) P p
 |no=>exact P.ak
def MI:Tg->Internal.apq
 | .n k=> .n k
 | .t l=> .t (l.aj .n)
def Uf:∀(l:0e1) (F:MS),l.iT (λF p=>F.fv p.1 p.2) F=⟨F.O,vS F.T l,F.bG⟩
 | [],F=>rfl
 |p::l,F=>by
  rw[D.MJ,Uf l];rfl
def agZ{β γ:Type}{ih:Ih}{x:Fx}{J:aW}{s:ae}{k:I}{h:Tg}{v:V}{F:MS}{f:ey->MS->R β}{br:199 β γ}{Q:137 γ}{EE:0e5}(P:11 (h9 ((pF F h v).aF f))):
  11 ((jO ih (k+2) (MI h) v F).aF λa F=>h9 (f a F)):=by
 cases h with
 |n m=>
  have P:11 (h9 ((Internal.R.Y () (F.fv m v)).aF f)):=P;refine 11 ((Internal.R.Y () (F.fv m v)).aF λa F=>h9 (f a F));rw[qY]at P⊢;exact P
 |t l=>
  cases v with
  |X vs=>
   refine 11 ((251 vs.U (56e0).U 105 (qE (jO ih (k+1)) 56e0 vs F)).aF λa F=>h9 (f a F));have P:11 (h9 ((251 vs.U l.U 97 (.Y () ((l.fw vs).iT (λF p=>F.fv p.1 p.2) F))).aF f)):=P;rw[D.fq];cases e:I.bY vs.U l.U with
   |true=>
    rw[e]at P;have P:11 (h9 ((R.Y () ((l.fw vs).iT (λF p=>F.fv p.1 p.2) F)).aF f)):=P;refine 11 ((qE (jO ih (k+1)) 56e0 vs F).aF λa F=>h9 (f a F));rw[TZ (vs:=vs) F (I.fZ e).bi,qY];rw[Uf,qY]at P;exact P
   |false=>rw[e]at P;exact P.ak
  |_=>exact P.ak
def JF(d:I)(p:cD)(apq:PySem.a0)(it:It)(k:I)(B:11e1)(F:MS)(r:2e9):Prop:=
 ∀(x:Fx) (dC aC:aW) (h s:ae) (Q:34e5) (EE:0e5) (b:aI) (wr:11e9),3e6->x.ab.bt=p->x.fz=false->pU 3e0 x.A x.ab EE->165 dC aC F s->56 dC x h.M s.M->
  jZ x (dC++aC) s.M it k b wr->Wr x (dC++aC) s.M wr->(∀a∈wr,h.M.ao a=L)->aH x dC h (h9 r) RF Q EE->
  e7 3e0 x.A (.Mv apq (.N b) B [] x.ab) (367 f (zy 3e0 x.A x.ab EE e s')) s
def ui(F:MS)(s:Tg)(it:It)(k:I)(rb rl:MS->2e9):2e9:=gN 32e5 143 λo=>o.ak 24e8 λv=>(pF F s v).aF λh F=>(rb F).aF λr F=>rK r F (rl F)
section
variable{ih:Ih}{d k:I}{sc:cD}{F:MS}
def Cs{apq:PySem.a0}{V:Tg}{it:It}{B:11e1}{rb rl:MS->2e9}{kt:I}(apy:PA ih d sc (kt+2) apq (MI V))(apF:Cr it apq)(apt:∀aS,JB d sc B aS (rb aS))(apC:∀aS,JF d sc apq it (k+1) B aS (rl aS)):
  JF d sc apq it k B F (ui F V it k rb rl):=by
 intro x dC aC n s Q EE apA wr Y j hz m R apv T0 W fr P;show agU ?_;unfold ui at P;cases e0:it.at F k with
 |L=>rw[e0]at P;exact P.ak
 |G o=>
 rw[e0]at P;cases o with
 |L=>
  show MG Y R T0 W e0 λh2 t b q=>?_;exact P.2 aC _ .bA b (apv.hN fr q) .bA
 |G v=>
  show Uc Y R T0 W e0 apF λu h1 t1 go=>go _ _ λh2 b r2 T2 apx q=>?_;have c:56 dC x n.M h2:=apv.hN fr q;have apB:=agZ (ih:=ih) (k:=kt) P;show eW (apy v F x _ (84 h2 t1) u _ EE Y j hz b r2 (apB.MH (s1:=(84 h2 t1)) c λa aps h E a C S a P3=>?_)) 51e5 m;have P3:=agX P3;have app:Kp dC (aC++h) x n.M E.M:=c.aV S;rw[D.eO]at C;have PB:=P3.MH (Q:=λf l=>match f with
     | .bA| .zG=>e7 3e0 x.A (.Mv apq (.N apA) B [] x.ab) (367 f (zy 3e0 x.A x.ab EE e s')) l
     | .brk=>Q .bA l
     | .bk v=>Q (.bk v) l) (br:=RF) app λr Ct p i u4 w g r4 apw=>?_
  ·exact eW (apt aps x _ E _ EE Y j hz m C (agY PB)) 51e5 m
  ·have apu:=app.aV g;rw[D.eO]at w;cases r4 with
   |next=>
    have apr:Kp (dC++aC) (h++p) x h2 i.M:=S.aV (by rw[D.eO];exact g);have apE:=apx.kj b H apr;have apz:=T2.kj (b.eH apr) apE.2;have e:dC++aC++(h++p)=dC++(aC++h++p):=by simp only[D.eO]
    show apC Ct x dC (aC++h++p) n i Q EE apA wr Y j hz m w apu (e▸apz) (e▸apE.1) fr apw
   |bk apD=>exact apw.2 (aC++h++p) i _ w apu (.bk (by rw[D.eO]at apD;exact apD))
universe e
inductive mI (x:Fx) (h0:ai) (J:aW) (h:ai):It->af->Prop
 |ad (l ax aP):h.gW ax ⟨aP⟩->¬cy J ax->cx J h l aP->mI x h0 J h (.ej (.fA l)) (.N ax)
 |X (l ax aP):jk h ax ⟨aP⟩->cx J h l aP->mI x h0 J h (.ej (.fA l)) (.N ax)
 |j6 (i p aP):J[i]? =G p->h.gW p.1 ⟨aP⟩->mI x h0 J h (.ej (.j6 i)) (.N p.1)
 |gL (s e apy hY):u7 h e apy 0 hY->sz J h e s 0 apy->e≠apy->Wr x J h [e,apy]->(∀a∈ [e,apy],h0.ao a=L)->mI x h0 J h (.gL s) (.N e)
 |dS (n r t u v):IsRange h r 0 (n:I) 1 t u v->n<=16777216->mI x h0 J h (.dS n) (.N r)
 |aR (z wr):T9 (bd x) x.A h z wr->z∈wr->Wr x J h wr->(∀a∈wr,h0.ao a=L)->(∀(s:ae) (Q:af->ae->Prop) (E:af->ae->Prop),s.M=h->Q (.N z) s->aY (bd x) x.A (qu (.N z)) Q E s)->mI x h0 J h .aR (.N z)
section
variable{x:Fx}{J dC aC:aW}{F:MS}{s:ae}{h0 h':ai}
def aK.jY(R:0e9):lr<=s.M.O.an:=350 (R.hJ _ 2e6) (R.m8 _ 2e6)
def aK.yD(R:0e9)(h:341 a)(e:18e4=0e4)(hd:o.bf= 27e1)(p:o.bj= .aB n)(r:n≠ "code"):o5 x J h' a/\∃o,18e4=0e4:=
 ⟨⟨λq=>31 (R.up a q) h,λq=>31 (R.m8 a q) h,λq=>31 (R.tW a q) h,I.dW R.jY h,λo' b=>by rw[e]at b;cases b;exact T8 hd p r⟩,o,e⟩
def uj(apv:56 dC x h0 s.M)(h:341 a):46e4=L:=by
 cases q:h0.ao a with
 |L=>rfl
 |G o=>
  show oE (apv.g5 a o q) λo' e=>?_;exact 31 9e1 h
def ag0{n:I}(h:106 n):Builtin.ul.small 0 n 1=true/\Builtin.ul.MK 0 n 1=n:=by
 have hs:Builtin.ul.MK 0 n 1=n:=by
  unfold Builtin.ul.MK;rw[eX aq];split
  ·rw[K.ediv_one];exact K.ag1 (↑n-0) 1
  ·lia
 show⟨?_,hs⟩;have s:∀i:K,0<=i->i<=16777217->Builtin.ul.ag2 i=true:=by
  intro i h1 h2;unfold Builtin.ul.ag2;rw[al.lb,BP,BP];lia
 unfold Builtin.ul.small;rw[hs,s 0 (395 0) (395 16777217),s n (by exact K.nR n) bN,s 1 (by exact K.one_nonneg) (by exact K.le.intro_sub (16777217-I.hG 0) H),eX aq,s (n+(1-1)) (395 (n+(1-I.hG 0))) bN];simp
def Ug{u:af}(R:0e9)(apv:56 dC x h0 s.M)(r:mI x h0 J s.M it u){Q:0e5}{EE:0e5}
  (h:∀q wr h2 t,229 F (84 h2 t)->69 [] h2->jZ x J h2 it 0 q wr->Wr x J h2 wr->(∀a∈wr,46e4=L)->Q (.N q) (84 h2 t)):96 (qu u):=by
 have up:∀a,a<s.M.O.an->a≠s.M.O.an:=λa h=>I.ip h;have ej:∀(o:aA) (n:fS) (vs:16e5),o.bj= .aB n->n≠ "code" ->o.bf= 27e1->o.DQ=false->(jZ x J (s.M.b6 o) it 0 s.M.O.an 39e8)->Q 9e8 (280 o):=by
  intro o n vs app m hd c w;have E:=R.ext (jW o) (vG o) s.a1;show h _ 39e8 _ s.a1 E.1 E.2 w (λa b=>?_) λa b=>?_
  ·rw[D.cZ.mp b];exact R.yD 11e7 (ai.fF _ c) hd app m
  ·rw[D.cZ.mp b];exact uj apv 11e7
 cases r with
 |ad l k aP b no r=>
  show AK b (ej _ _ _ H aq H H (.ej (.iL (.ad l k aP _ _ (b.b6 _) no (hK (jc (jW _)) r) ⟨_,9e9,H,H⟩ ?_))));(show aN b λo e f=>?_;try clear b);exact up _ 9e1
 |X l k aP b r=>
  show PyProof.Rows.iter_tuple b (ej _ _ _ H aq H H (.ej (.X l k aP _ _ (b.b6 _) (hK (jc (jW _)) r) ⟨_,9e9,H,H⟩ ?_)));exact up _ b.lt
 |j6 i p aP d b=>
  show AK b (ej _ _ _ H aq H H (.ej (.iL (.j6 i p _ _ d ⟨_,9e9,H,H⟩ ?_))));(show aN b λo e f=>?_;try clear b);exact up _ 9e1
 |gL sc e apy hY j S ne W fr=>exact ag3 j (h e [e,apy] s.M s.a1 R (Kp.b8 ..) (.gL j S ne) W fr)
 |dS n r t u v hr m=>
  show oA (ag0 m) λh1 h2=>?_;show wpAny_pyIter_range hr h1 (ej _ _ _ H aq H H (.dS 31e8 ?_));have:=ai.fF s.M (o:=(329 "range_iterator" #[iC 0,iC (Builtin.ul.MK 0 n 1),iC 1])) H;rw[h2]at bb⊢;have e:(n:K)-((0:I):K)=n:=bN;rw[e];exact bb
 |aR z wr apC hz W fr w=>exact w s Q EE H (h z wr s.M s.a1 R (Kp.b8 ..) (.aR apC hz) W fr)
universe e
def PI(ih:Ih)(d:I)(h:cD)(E:PySem.a0)(e:apw):Prop:=∀(F:MS) (x:Fx) (J:aW) (s:ae) (Q:0e5) (EE:0e5),3e6->x.ab.bt=h->0e9->64 (tC ih e F) (mI x s.M)->
  25 27e9
def aH.yE{α β γ δ:Type}{x:Fx}{J:aW}{s:ae}{r:3e3}{f:α->MS->R γ}{br:17e8}{h:199 γ δ}{Q:12e2}{e:38e3}{EE:0e5}(P:99 34e4 h e)
  (apz:∀a aS aC s1 u,293 aS s1->69 aC s1.M->br (J++aC) s1.M a u->99 (f a aS) h e->Q u s1):27e7:=by
 cases r with
 |aT a F ob=>exact⟨(26e9).1,λaC s' u R apv r=>apz a F aC s' u R apv r 26e3⟩
 |a8 a F ob=>exact P
 |no=>exact P.ak
def aH.Uh{ih:Ih}{a:apw}{F:MS}{x:Fx}{J:aW}{s:ae}{Q:0e5}{e:2e4->ae->Prop}{EE:0e5}(P:10 (cj ih a F))(h:∀v u s1,RV J s1.M v u\/ku->Q u s1->e [u] s1):
  99 (kc ih [a] F) (pS 1) e:=by
 refine 99 (27e8 (396 [v])) (pS 1) e;generalize cj ih a F=r at P⊢;cases r with
 |aT v aS ob=>
  refine 99 (.aT [v] aS (ob++([]++[]))) (pS 1) e;rw[D.dZ,D.dZ];show⟨P.1,λaC s' us R apv r=>?_⟩;obtain⟨r,_⟩:=r;cases r with
  |aQ r b=>
   cases b;exact h v _ s' (.aE d2) (P.2 aC s' _ R apv r)
 |a8 i aS ob=>exact P
 |no=>exact P.ak
section
variable{ih:Ih}{d:I}{sc:cD}
def ag4(h:PX ih d sc E e)(g:∀F,tC ih e F=132 13e4 (gN (srcOf v F) 103 λl=> 7 (.ej l))):PI ih d sc E e:=by
 intro F x J s Q EE Y z R P;rw[g]at P;show h F x J s _ EE Y z R (P.aF λv aS S s1 u1 k apq r1 r=>?_);show eD r λl q r=>?_;cases r1 with
 |X m a aP b c n=>cases ar.G.cF q;exact r.fJ k (.X _ a aP b n)
 |ad m t a aP b no c n=>cases ar.G.cF q;exact r.fJ k (.ad _ a aP b no n)
 |Z i p w=>
  (show aN (ar.ha.mp q) λm j u=>?_;subst u);show aN (ar.k7.mp j) λo app f=>?_;show aN (aps.vC f (k.O i _ p app w)) λaP b apA=>?_;exact r.fJ k (.j6 i p aP w b.iG)
 |_=>exact nN q
def Ui{A:PySem.a0}{a:apw}{id:am}{p aU:dA}{k:I}{apq:fS}(h:kR ih d sc A a)(e:hq id k=true)(h2:eu sc id .ly=true)(w:19 gl=G (.aa 42e9))
  {F:MS} {x:Fx} {J:aW} {s:ae} {Q:0e5} {EE:0e5} (Y:3e6) (nZ:41e3) (R:0e9) (P:99 (cj ih a F) RV (λu s1=>282 (aX 42e9 [u]) s1)):
  25 (234 (.jR (172 p) [A] [] aU)):=by
 rw[Cu];show aZ (yi (d:=d) (F:=F) (aU:=p) e h2 x J s _ EE Y nZ R ?_);unfold mG;rw[w];refine 99 (124 (.aa 42e9) F) RV _;show⟨λq h=>(nomatch h),λaC s' u m n r=>?_⟩;cases r;have b:=P.qM n;show ue (Cg (265 h)) (vJ (265 h) F x _ s' _ EE Y nZ m ?_);show aH.Uh b λv u s1 r1 e=>⟨⟨.ud,15e6,.qW H⟩,e⟩
def ag5{A:PySem.a0}{a:apw}{id:am}{p aU:dA}(h:kR ih d sc A a)(apD:hq id 44=true)(h2:eu sc id .ly=true):PI ih d sc (.jR (172 p) [A] [] aU) (168 44 [a]):=by
 intro F x J s Q EE Y apr R P;have P:64 (132 27e8 (gN (Qt v F) 100 λl=> 7 (.gL l))) (mI x s.M):=P;show Ui (apq:= "enumerate") h apD h2 cI Y apr R (P.yE λv aS g s1 u1 app z r1 j=>?_);show eD j λl q j=>?_
 ·have j:∀aC s' u,206 aS->38e6->mI x s.M (J++aC) s'.M (.gL l) u->Q u s':=j.2;have eg:∀(h2:ai),u7 h2 (s1.M.O.an+1) s1.M.O.an 0 .L->sz (J++g) h2 (s1.M.O.an+1) l 0 s1.M.O.an->(∀b o,s1.M.ao b=0e4->h2.ao b=0e4)->Q (.N (s1.M.O.an+1)) {s1 with M:=h2}:=by
   intro h2 w S k;have E:=app.jw k s1.a1;show j g _ _ E.1 (by have:=z.aV E.2;rw[D.dZ]at bb;exact bb) (.gL l _ _ _ w S (I.vb 40e6) (λa r=>?_) λa r=>?_)
   ·rcases D.eR.mp r with H|r
    ·exact app.yD 37e9 w H H aq
    ·rw[45e1];show kX S.Z λo vs n e B c apx=>?_;exact app.yD 11e7 e B c apx
   ·rcases D.eR.mp r with H|r
    ·exact uj z 37e9
    ·rw[45e1];exact uj z 11e7
  cases r1 with
  |ad m t a aP r no apF apz=>
   cases ar.G.cF q;show aM.of (ag6 r λh2 w f hz k=>eg h2 w (.iL (.ad _ a aP _ _ (r.at (k _)) no (hK (jc k) apz) f ?_)) k);(show aN r λo e V=>?_;try clear r);exact 42e2
  |ei b a r no apy=>
   cases ar.G.cF q;exact aM.of (ack r λh2 w f hz k=>eg h2 w (.ba _ a _ _ (k _ _ r) no f (298 r)) k)
  |Z i p apA=>
   (show aN (ar.ha.mp q) λm C W=>?_;subst W);show aN (ar.k7.mp C) λo apE apu=>?_;show aN (aps.vC apu (app.O i _ p apE apA)) λaP r V=>?_;have r:=r.iG;show aM.of (ag6 r λh2 w f hz k=>eg h2 w (.iL (.j6 i p _ _ apA f ?_)) k);(show aN r λo e V=>?_;try clear r);exact 42e2
  |_=>exact nN q
def ag7{A:PySem.a0}{a:apw}{id:am}{p aU:dA}(h:kR ih d sc A a)(w:hq id 57=true)(h2:eu sc id .ly=true):PI ih d sc (.jR (172 p) [A] [] aU) (168 57 [a]):=by
 intro F x J s Q EE Y q R P;have P:64 (132 27e8 (gI v 101 λn t=>(oP (decide (0<=n/\n<=16777216)) t F).aF λl F=> 7 (.dS n.aJ))) (mI x s.M):=P;show Ui (apq:= "range") h w h2 cI Y q R (P.yE λv aS m s1 u1 k i r1 b=>?_)
 ·show m7 r1 b λn t tk b=>?_
  ·show oA (tY b) λr b=>?_;have r:=fo r;have b:∀aC s' u,206 aS->38e6->mI x s.M (J++aC) s'.M (.dS n.aJ) u->Q u s':=b.2;show aM.of (call_range_1 ?_);have j:=jW (h:=s1.M) (329 "range" #[.y 0 s1.a1,.y n tk,.y 1 (s1.a1+1)]);have E:=k.jw j (s1.a1+1+1);show b m _ _ E.1 (by have:=i.aV E.2;rw[D.dZ]at bb;exact bb) (.dS _ _ s1.a1 tk (s1.a1+1) ?_ bN);have e:((n.aJ:I):K)=n:=K.um r.1;rw[e];exact 9e9
def ag8{apq apy:PySem.a0}{i:apw}{r:Tg}{B:11e1}{aU:dA}{F:MS}{rl:It->MS->2e9}(l:PI ih d sc apy i)(hs:∀ab x,u8 apy ab x=b9 x)(m:∀it aS,oQ it r=true->JF d sc apq it 0 B aS (rl it aS)):
  JS d sc (.For apq apy B [] aU) F ((tC ih i F).aF λit F=>gB (oQ it r) 156 (h9 (rl it F))):=by
 intro x J s Q EE Y a hz j R P;show 23 (arm_exec_For ..);show 25e5;show aZ (l F x J s _ EE Y a R (P.yE λit aS e s1 u1 k b r1 h=>?_));show fU h λw h=>?_
 ·rw[hs];show 181 (44 (183 (Ug k b r1 λu wr h2 t v n T2 p fr=>?_)));show 56e1;rw[wy];have q:69 e h2:=by have:=b.aV n;rw[D.dZ]at bb;exact bb
  exact m it aS w x J e s (375 h2 t) Q EE u wr Y a hz j v q T2 p fr h
universe e
def lZ(b3:29e3):283 hw->29e3->29e3
 | [],cP=>cP
 |(n,k)::r,cP=>if k== .eG then lZ b3 r ((n,(b3.bZ n).ge 0)::cP)else lZ b3 r cP
def Cv(b3:29e3)(n:am)(k:hw)(r:283 hw)(cP:29e3):lZ b3 ((n,k)::r) cP=if(k== .eG)=true then lZ b3 r ((n,(b3.bZ n).ge 0)::cP)else lZ b3 r cP:=H
def ML(h:∀p∈bt.bq,p.2= .eG->(378 p.1)=true):AD bt ab=b9 (lZ ab.b3 bt.bq []):=by
 unfold AD;have cR:∀(bq:283 hw) (cP:29e3),(∀p∈bq,p.2= .eG->(378 p.1)=true)->
   (forIn bq cP (λ(x:am×hw) (r:D (am×aI))=>match x with
    |(gf,d9)=>if(d9== .eG)=true then do let c<-Uj ab gf;b9 (xa.uH ((gf,c)::r))else b9 (xa.uH r)):b5 29e3)=b9 (lZ ab.b3 bq cP):=by
  intro bq;induction bq with
  |aR=>intro cP _;rfl
  |aQ p r ih=>
   intro cP a;obtain⟨n,k⟩:=p;have e:=λcP=>ih cP λq m=>a q (54 m);rw[D.AM];dsimp only;rw[Cv];by_cases s:(k==hw.eG)=true
   ·rw[eX s,eX s];have hs:=a (n,k) (D.dQ ..) (jv s);show oE (ar.mT.mp hs) λc b=>?_;have v:Uj ab n=b9 c:=by unfold Uj;rw[b]
    rw[v];simp only[Uk];rw[e,b];rfl
   ·rw[d6 s,d6 s];simp only[Uk];exact e cP
 exact(by simpa using cR bt.bq [] h)
def Ul:∀{cP:29e3},(bq.aj (·.1)).dT->(lZ b3 bq cP).bZ n=if bq.bZ n=23e5 then G ((b3.bZ n).ge 0)else cP.bZ n:=by
 induction bq with
 |aR=>exact λb=>rfl
 |aQ p r x=>
  obtain⟨m,k⟩:=p;intro cP nd;show oA (D.jd.mp nd) λh1 h2=>?_;clear nd;have ih:=λcP=>x (cP:=cP) h2;clear x;rw[Cv,D.lB];by_cases e:n=m
  ·subst e;have hr:r.bZ n=L:=by
    cases q:r.bZ n with
    |L=>rfl
    |G a=>exact bM (D.ox (f:=(·.1)) (nc q)) h1
   clear h1;rw[vO];by_cases s:(k==hw.eG)=true
   ·rw[eX s,ih,hr,jv s,D.lB,vO];simp
   ·rw[d6 s,ih,hr];have:¬(G k=G hw.eG):=λq=>s (by cases q;rfl);rw[d6 bb];simp
  ·have h:(n==m)=false:=sd.bn e;rw[h];split
   ·rw[ih,D.lB,h]
   ·rw[ih]
def ag9:∀{cP:29e3},p∈lZ b3 bq cP->p∈cP\/(p.1,hw.eG)∈bq/\p.2=(b3.bZ p.1).ge 0:=by
 induction bq with
 |aR=>exact λh=> 25e7
 |aQ q r s=>
  obtain⟨m,k⟩:=q;intro cP h;rw[Cv]at h;split at h
  ·rename_i x;rcases s h with h|h
   ·rcases D.eR.mp h with e|h
    ·subst e;exact .aE ⟨by rw[jv x];exact D.dQ ..,H⟩
    ·exact 25e7
   ·exact .aE ⟨54 h.1,h.2⟩
  ·rcases s h with h|h
   ·exact 25e7
   ·exact .aE ⟨54 h.1,h.2⟩
def Um:∀{cP:29e3},(bq.aj (·.1)).dT->(cP.aj (·.1)).dT->(∀n,n∈bq.aj (·.1)->n∉cP.aj (·.1))->((lZ b3 bq cP).aj (·.1)).dT:=by
 induction bq with
 |aR=>exact λv h v=>h
 |aQ p r a=>
  obtain⟨m,k⟩:=p;intro cP h1 h2 h3;show oA (D.jd.mp h1) λb x=>?_;rw[Cv];split
  ·show a x (D.jd.bn ⟨h3 _ (D.dQ ..),h2⟩) λn s hm=>?_;rcases D.eR.mp hm with e|e
   ·exact b (e▸s)
   ·exact h3 n (54 s) e
  ·exact a x h2 λn s=>h3 n (54 s)
def aha{α β:Type}{l:D (α×β)}:(l.aj (·.1)).dT->(∀n m c,(n,c)∈l->(m,c)∈l->n=m)->(l.aj (·.2)).dT:=by
 induction l with
 |aR=>exact λx x=>D.kP
 |aQ p l r=>
  intro nd h;show oA (D.jd.mp nd) λh1 h2=>?_;show D.jd.bn ⟨λhm=>?_,r h2 λn m c a b=>h n m c (54 a) (54 b)⟩;show aN (D.sr.mp hm) λq s e=>?_;have e:q.2=p.2:=e;have bb:p.1=q.1:=h p.1 q.1 p.2 (D.dQ ..) (54 (by rw[<-e];exact s));show h1 ?_;refine p.1∈_;rw[bb];exact D.ox (f:=(·.1)) s
def qa(s h:cD):cD:=
 {s with bq:=s.bq.aj λ(n,k)=>if(k== .eG&&h.d9== .jJ&&h.bq.bZ n==18e8)then(n,.dm)else(n,k)}
def ahb(h:ab.bt=sc):rG cs ab=qa cs sc:=by
 subst h;rfl
def ahc(k:I):5e5≠33e8:=by
 unfold nm;intro h;cases q:qI[k]? with
 |L=>
  rw[q]at h;have h:=bC am.cps h;have:(#[2000000+k]:bP I)= #[46,48]:=h;have:=bC bP.an bb;cases bb
 |G x=>
  rw[q]at h;have e:qI.dJ (λs=>!(s==33e8))=true:=by decide+cn
  have:=D.ib.mp e x (D.ja q);have h:x=33e8:=h;rw[h]at bb;revert bb;decide+cn
def ahd{α β:Type}(g:am->α->β)(l:283 α):(320 (p.1,g p.1 p.2)).bZ n=(l.bZ n).aj (g n):=by
 induction l with
 |aR=>rfl
 |aQ p l h=>
  obtain⟨m,k⟩:=p;rw[D.nX,D.lB,D.lB];by_cases e:n=m
  ·subst e;simp
  ·have s:(n==m)=false:=sd.bn e;rw[s];exact h
def Un:(qa cs sc).bq.bZ n=(cs.bq.bZ n).aj λk=>if(k== .eG&&sc.d9== .jJ&&sc.bq.bZ n==18e8)then hw.dm else k:=by
 have s:(λ(x:am×hw)=>match x with|(n,k)=>if(k==hw.eG&&sc.d9==Uo.jJ&&sc.bq.bZ n==G hw.dm)then(n,hw.dm)else(n,k))=
   λp=>(p.1,(λ(n:am) (k:hw)=>if(k==hw.eG&&sc.d9==Uo.jJ&&sc.bq.bZ n==G hw.dm)then hw.dm else k) p.1 p.2):=by
  funext p;obtain⟨n,k⟩:=p;dsimp only;split<;>rfl
 refine(cs.bq.aj _).bZ n=_;rw[s];exact ahd (λ(n:am) (k:hw)=>if(k==hw.eG&&sc.d9==Uo.jJ&&sc.bq.bZ n==G hw.dm)then hw.dm else k) cs.bq
def Up:19 (qD m T)=2e5->19e1=2e5/\k≠m:=by
 induction T with
 |aR=>exact λh=>by cases h
 |aQ p T s=>
  intro h;have h:19 (141 p.1 m (qD m T) (p::qD m T))=2e5:=h;rw[nQ];cases q:I.bY p.1 m with
  |true=>
   rw[q]at h;show oA (s h) λa b=>?_;have:340 k=false:=by
    cases z:I.bY p.1 k with
    |false=>rfl
    |true=>exact bM ((I.fZ z).bi.aV 42e8) b
   rw[bb];exact⟨a,b⟩
  |false=>
   rw[q]at h;have h:19 (p::qD m T)=2e5:=h;rw[nQ]at h;cases z:I.bY p.1 k with
   |true=>
    rw[z]at h;show⟨h,λe=>?_⟩;rw[e]at z;rw[z]at q;cases q
   |false=>
    rw[z]at h;clear z;show oA (s h) λa b=>?_;exact⟨a,b⟩
def ahe(s h:cD)(apt:aI)(ab:ez):ez:=
 {bt:=qa s h,cY:=apt,g8:=ab.g8,b3:=lZ ab.b3 s.bq [],pv:=ab.pv,mi:=L,dH:=ab.dH,ec:=ab.ec,jC:=ab.jC}
def ng(x:Fx)(s h:cD)(apt:aI):Fx:=⟨x.w,x.A,ahe s h apt x.ab,x.os,true⟩
def MM:Tg->D I
 | .n k=>[k]
 | .t l=>l
def Uq(h:19 (xD tg T)=2e5):19e1=2e5/\k∉MM tg:=by
 cases tg with
 |n m=>
  show oA (Up h) λa b=>?_;exact⟨a,λq=>b 53e0⟩
 |t l=>
  have cR:∀(l:D I) (T:0e1),19 (l.iT (λT k=>qD k T) T)=2e5->19e1=2e5/\k∉l:=by
   intro l;induction l with
   |aR=>exact λT h=>⟨h,λq=>nomatch q⟩
   |aQ m l ih=>
    intro T h;show oA (ih _ h) λa b=>?_;show oA (Up a) λa c=>?_;exact⟨a,λq=>(D.eR.mp q).ak c b⟩
  exact cR l T h
structure un(cs sc:cD)(tg:Tg):Prop where
 d9:cs.d9= .jJ
 nd:(cs.bq.aj (·.1)).dT
 T:∀n,cs.bq.bZ n=G .cV->(∃k∈MM tg,n=nm k)\/n=(".0" :am)
 eG:∀n,(n,hw.eG)∈cs.bq->sc.bq.bZ n=G .dm\/sc.bq.bZ n=G .eG
 MN:∀n,cs.bq.bZ n≠G .dm
 dot:cs.bq.bZ (".0" :am)=G .cV
def MO{α:Type}{l:283 α}(s:(l.aj (·.1)).dT){n:am}{k:α}(h:(n,k)∈l):l.bZ n=G k:=by
 induction l with
 |aR=>cases h
 |aQ p r ih=>
  obtain⟨m,d⟩:=p;show oA (D.jd.mp s) λh1 h2=>?_;clear s;rw[D.lB];rcases D.eR.mp h with e|e
  ·cases e;simp
  ·have:n≠m:=λa=>h1 (a▸D.ox (f:=(·.1)) e);clear h1 h;have x:(n==m)=false:=sd.bn bb;rw[x];exact ih h2 e
section
variable{x:Fx}{J aC:aW}{F bR:MS}{s s1 s':ae}{cs sc:cD}{m:Tg}{d:I}{apt:aI}
def yF{k2:hw}{n:am}(h:(ng x cs sc apt).ab.dB n=G k2):∃k,cs.bq.bZ n=G k/\(k2=k\/(k= .eG/\k2= .dm)):=by
 have h:(qa cs sc).bq.bZ n=G k2:=h;rw[Un]at h;show aN (ar.ha.mp h) λk s e=>?_;show⟨k,s,?_⟩;split at e
 ·rename_i c;simp only[al.lb,AB]at c;exact .aE ⟨c.1.1,e.bi⟩
 ·exact .a4 e.bi
def ahf(apC:un cs sc m)(Y:3e6)(v:41e3):(ng x cs sc apt).Ok d:=by
 show aN Y.dY λl b p=>?_;show⟨apC.d9,Y.vy,Y.jN,λn h=>?_,Y.g7,Y.jb,Y.e8,Y.j5,⟨l,b,λq=>nG q⟩,λp=>?_⟩
 ·refine((lZ x.ab.b3 cs.bq []).bZ n).iq=true;rw[Ul apC.nd];have r:cs.bq.bZ n=23e5:=by
   rcases h with h|h
   ·(show aN (yF h) λk s a=>?_;rcases a with e|⟨e,_⟩)
    ·exact bM (e▸s) (apC.MN n)
    ·rw[s,e]
   ·(show aN (yF h) λk s a=>?_;rcases a with e|⟨_,e⟩)
    ·rw[s,<-e]
    ·cases e
  rw[eX r];rfl
 ·refine(qa cs sc).bq.bZ 33e8=12e3;rw[Un,apC.dot];rfl
def aK.ahg(apC:un cs sc m)(Y:3e6)(W:41e3)(hz:x.fz=false)(R:0e9){l:ai}(hL:apt=s.M.O.an)(A:l.Ns apt (λz=>L))(g:386 4e4 (l.ao a))(t:I):
  aK (ng x cs sc apt) J ⟨F.O,xD m F.T,F.bG⟩ (84 l t):=by
 have i:=(R.jw g t).1;have MP:∀n c,(n,c)∈(ng x cs sc apt).ab.b3->(n,c)∈x.ab.b3:=by
  intro n c h;rcases ag9 (p:=(n,c)) h with h|⟨hm,e⟩
  ·cases h
  ·have g:x.ab.dB n=18e8\/x.ab.dB n=23e5:=by
    unfold ez.dB;rw[W];exact apC.eG n hm
   show oE (ar.mT.mp (Y.vz n g)) λapE apD=>?_;have e:c=(x.ab.b3.bZ n).ge 0:=e;rw[apD]at e;have e:c=apE:=e;rw[e];exact nc apD
 have apr:∀n c,(n,c)∈x.ab.b3->c<s.M.O.an:=by
  intro n c h;show gd (R.hj hz n c h) λw o e z=>?_;exact 9e1
 show⟨i.d8,i.cU,i.O,i.nd,i.gy,i.up,⟨⟨_,A,λk v a b=>?_⟩,λk v a b=>?_⟩,λa P V=>?_,λa P=>?_,⟨?_,?_,λn E=>?_⟩,(λq=>nG q),i.gz,i.fx,i.dD,i.os,i.cW⟩
 ·show oA (Uq b) λapq S=>?_;(show aN (yF a) λapw f app=>?_;rcases app with e|⟨_,e⟩)
  ·rcases apC.T _ (e▸f)with⟨j,C,e⟩|e
   ·exact bM (r6 e▸C) S
   ·exact bM e (ahc k)
  ·cases e
 ·show oA (Uq b) λapq S=>?_;have apA:cs.bq.bZ 5e5=23e5:=by
   rcases a with h|h
   ·(show aN (yF h) λapw f app=>?_;rcases app with e|⟨e,_⟩)
    ·exact bM (e▸f) (apC.MN _)
    ·rw[f,e]
   ·(show aN (yF h) λapw f app=>?_;rcases app with e|⟨_,e⟩)
    ·rw[f,<-e]
    ·cases e
  have B:41e7=18e8\/41e7=23e5:=by
   unfold ez.dB;rw[W];exact apC.eG _ (nc apA)
  obtain(⟨c,u,e1,e2,r,no⟩):=i.bq.eU k v B apq;show⟨c,u,?_,e2,r,no⟩;refine(lZ x.ab.b3 cs.bq []).bZ 5e5=G c;rw[Ul apC.nd,eX apA,e1];rfl
 ·rcases P with e|⟨q,_⟩
  ·have:a=s.M.O.an:=e.aV hL;rw[bb]at V;exact 292 (R.up _ V)
  ·cases q
 ·rcases P with e|⟨q,_⟩
  ·have:a=s.M.O.an:=e.aV hL;rw[bb];exact R.jY
  ·cases q
 ·show aha (Um apC.nd D.kP λz z h=>nomatch h) λn m' c a b=>?_;exact Mi R.b3.1 (MP n c a) (MP m' c b)
 ·exact Um apC.nd D.kP λz z h=>nomatch h
 ·have l:=apr n _ (MP n _ E);have:(ng x cs sc apt).ab.cY=s.M.O.an:=hL;rw[bb]at l;exact 292 l
universe e
structure lC(wr:D aI)(J aC:aW)(x:Fx)(h h':ai):Prop where
 bS:∀a o,a∉wr->h.ao a=G o->iu o=false->¬FA x a->¬fr x a->¬cy J a->h'.ao a=G o
 js:∀a o,a∉wr->h.ao a=G o->FA x a->¬fr x a->∃o',h'.ao a=G o'/\o'.bj=o.bj/\o'.bf=o.bf
 iV:∀a o,a∉wr->h.ao a=G o->iu o=true->a≠lW->h'.ao a=G o
 g5:∀a o,a∉wr->h.ao a=G o->∃o',h'.ao a=G o'
 fk:∀a,cy aC a->h.ao a=L
section
variable{wr:D aI}{J aC m2:aW}{x:Fx}{h h1 h2:ai}
def lC.b8:lC wr J [] x h h:=⟨λs s s e s s s s=>e,λs o s e s s=>⟨o,e,H,H⟩,λa o s e s s=>e,λa o s e=>⟨o,e⟩,(by intro a b;(show aN b λp r s=>?_;try clear b);exact nomatch r)⟩
def lC.aV(a:lC wr J aC x h h1)(b:Kp (J++aC) m2 x h1 h2)(r:∀a∈wr,¬68 m2):lC wr J (aC++m2) x h h2:=by
 show⟨λc o w e t f hL s=>b.bS c o (a.bS c o w e t f hL s) t f hL λq=>?_,λc o w e f hL=>?_,λc o w e t n=>b.iV c o (a.iV c o w e t n) t n,λc o w e=>?_,λc m=>?_⟩
 ·rcases 46e3 with q|q
  ·exact s q
  ·exact 224 (a.fk c q) e
 ·show dV (a.js c o w e f hL) λo1 e1 c1 d1=>?_;show dV (b.js c o1 e1 f hL) λo2 e2 c2 p=>?_;exact⟨o2,e2,c2.aV c1,p.aV d1⟩
 ·show oE (a.g5 c o w e) λo1 e1=>?_;exact b.g5 c o1 e1
 ·rcases jt.mp m with q|q
  ·exact a.fk c q
  ·cases k:h.ao c with
   |L=>rfl
   |G o=>
    show oE (a.g5 c o (λw=>r c w q) k) λo1 e1=>?_;exact 224 (b.fk c q) e1
def lC.hN(apv:lC wr J aC x h h1)(s:∀b o,b∉wr->h1.ao b=0e4->h2.ao b=0e4):lC wr J aC x h h2:=by
 show⟨λa o w e t f g p=>s a o w (apv.bS a o w e t f g p),λa o w e f g=>?_,λa o w e t n=>s a o w (apv.iV a o w e t n),λa o w e=>?_,apv.fk⟩
 ·show aN (apv.js a o w e f g) λo' e1 r=>?_;exact⟨o',s a o' w e1,r⟩
 ·show oE (apv.g5 a o w e) λo' e1=>?_;exact⟨o',s a o' w e1⟩
universe e
def l3(wr:11e9)(x:Fx)(J:aW)(h:ai)(r:2e9)(Q:153 ae):Prop:=match r with
 | .aT (.f .bA) F ob=>51e9/\∀aC s',206 F->lC wr J aC x h s'.M->Q s'
 |_=>fR
section
variable{wr:D aI}{J aC m2:aW}{x:Fx}{h h1:ai}{s s1:ae}{Q:ae->Prop}{EE:af->ae->Prop}{α β:Type}
def l3.ob{a:α}{F:MS}{ob:D Ob}{f:α->MS->2e9}(P:l3 wr x J h ((R.aT a F ob).aF f) Q):51e9/\l3 wr x J h (f a F) Q:=by
 have P:l3 wr x J h ((f a F).ci ob) Q:=P;cases q:f a F with
 |aT b du mm=>
  rw[q]at P;have P:l3 wr x J h (.aT b du (ob++mm)) Q:=P;cases b with
  |f fl=>
   cases fl with
   |next=>exact i3.nq (λp s=>P.1 p (D.w0 _ s)) (i3.nq (λp s=>P.1 p (D.uO _ s)) P.2)
   |_=>exact P.ak
  |_=>exact P.ak
 |a8=>rw[q]at P;exact P.ak
 |no=>rw[q]at P;exact P.ak
def l3.aF{f:α->MS->2e9}{br:17e8}{e:12e2}(P:l3 wr x J h 34e4 Q)
  (apz:∀a du m2 s u,aK x (J++aC++m2) du s->Kp (J++aC) m2 x s1.M s.M->br (J++aC++m2) s.M a u->l3 wr x J h (f a du) Q->e u s):aH x (J++aC) s1 r br e EE:=by
 cases r with
 |aT a F ob=>
  show oA (l3.ob P) λo P=>?_;exact⟨o,λm2 s' u R apv r=>apz a F m2 s' u R apv r P⟩
 |a8=>exact P.ak
 |no=>exact P.ak
universe e
def yG(s:10e4)(ab:ez)(b:al):b5 al:=forIn s b λc r=>if r=true then do let Y<-sU c ab (77 c);b9 (xa.uH Y)else b9 (xa.uH r)
def Ur:∀(s:10e4),yG s ab false=42e5
 | []=>rfl
 |c::cs=>by
  unfold yG;rw[D.AM];simp-fs only[al.zH,zI,Uk];exact Ur cs
section
variable{ih:Ih}{d:I}{sc:cD}
def ahh:∀{r:10e4} {e:23e6},cJ (PT ih d sc) r e->∀(F:MS) (x:Fx) (J:aW) (s:ae) (Q:29e1) (EE:0e5),3e6->x.ab.bt=sc->0e9->64 (pD ih true e F) RB->
  25 (yG r x.ab true):=by
 intro r e apz;induction apz with
 |aR=>exact λF x J s Q EE Y a R P=>273 H
 | @aQ C c m cs h hs n=>
  intro F x J s Q EE Y a R P;have P:64 ((mw ih c F).aF λb F=>cC (b==true) (pD ih true cs F) (7 b)) RB:=P;unfold yG;rw[D.AM];simp-fs only[wC];show aZ (aZ (h F x J s _ EE Y a R (P.aF λb aS v s1 u1 p w r1 k=>32e6)));cases r1;cases b with
  |true=>exact n aS x _ s1 Q EE Y a p k
  |false=>
   refine 282 (yG m x.ab false) s1;rw[Ur];exact bH (k.fJ p H)
def ahi{γ δ:Type}{n:I}{t:al}{F:MS}{f:ey->MS->R γ}{x:Fx}{J:aW}{s:ae}{br:199 γ δ}{Q:38e3}{EE:0e5}(e:106 n)(P:11 (f () F)):11 ((gu n t F).aF f):=by
 unfold gu;cases t with
 |true=>
  cases q:f () F with
  |aT a du ob=>
   rw[q]at P;refine 11 (((f () F)).ci (286 n));rw[q];exact⟨λp b=>by
    rcases D.lI.mp b with h|h
    ·rw[52e9];exact e
    ·exact P.1 p h,P.2⟩
  |a8 i du ob=>
   rw[q]at P;refine 11 (((f () F)).ci (286 n));rw[q];exact⟨λp b=>by
    rcases D.lI.mp b with h|h
    ·rw[52e9];exact e
    ·exact P.1 p h,P.2⟩
  |no=>rw[q]at P;exact P.ak
 |false=>
  dsimp only;rw[I.Us.bn e];dsimp only;rw[qY];exact P
def l3.gu{n:I}{t:al}{F:MS}{f:ey->MS->2e9}{wr:11e9}{x:Fx}{J:aW}{h:ai}{Q:153 ae}(P:l3 wr x J h ((gu n t F).aF f) Q):n<=16777216/\l3 wr x J h (f () F) Q:=by
 unfold Internal.gu at P;cases t with
 |true=>
  show oA (l3.ob P) λo P=>?_;exact⟨oU o,P⟩
 |false=>
  cases s:I.g4 n 16777216 with
  |true=>dsimp only at P;rw[s]at P;exact⟨I.cz s,(l3.ob P).2⟩
  |false=>dsimp only at P;rw[s]at P;exact P.ak
def JE(d:I)(a:cD)(e:PySem.a0)(it:It)(k j:I)(F:MS)(r:2e9):Prop:=
 ∀(x:Fx) (dC aC:aW) (h0:ai) (s:ae) (Q:153 ae) (h:aI) (wr:11e9) (p:9e3),3e6->x.ab.bt=a->165 dC aC F s->lC wr dC aC x h0 s.M->
  jZ x (dC++aC) s.M it k h wr->Wr x (dC++aC) s.M wr->(dC++aC)[j]? =5e1->l3 wr x dC h0 r Q->
  e7 3e0 x.A (.qv e 0 (.N h) 7e2 x.ab) (403 s') s
def Ut(F:MS)(m:I)(it:It)(k j:I)(s:MS->R al)(h:MS->3e2)(rl:MS->2e9):2e9:=gN 32e5 144 λo=>o.ak 24e8 λv=>(s (F.fv m v)).aF λq F=>cC q
  ((h F).aF λx F=>gN (F.dM j) 158 λo=>QE o x j rl F) (rl F)
universe e
section
variable{ih:Ih}{d:I}{kl:cD}
def MQ(W:Wr x J h wr)(apv:56 J x h h'):∀a∈wr,¬68 aC:=by
 intro a s q;show sN (W a s) λb o e=>?_;exact nN ((323 q) e)
def ahj{w apD:PySem.a0}{c:10e4}{apz:23e6}{e:apw}{id:am}{i aU:dA}{m:I}{apE:cD}{it:It}{k j:I}{F:MS}{rl:MS->2e9}(hid:id=nm m)(apF:146 kl id=true)(ht:cJ (PT ih d kl) c apz)(he:PX ih d kl w e)(hg:∀s,it≠ .gL s)
  (hl:∀aS,JE d kl (.gV w [⟨172 i,apD,c,0⟩] apE aU) it (k+1) j aS (rl aS)):JE d kl (.gV w [⟨172 i,apD,c,0⟩] apE aU) it k j F (Ut F m it k j (pD ih true apz) (cj ih e) rl):=by
 intro x dC aC h0 s Q g wr p Y V R apv apq W hp P;show P0 ?_;have no:∀(e:af) (s':ae),(λ(a:af) (a:ae)=>fR) e s'->j4 3e0 x.A x.ab (λe s'=>fR) e s':=λa a h=>h.ak;unfold Ut at P;cases e0:it.at F k with
 |L=>rw[e0]at P;exact P.ak
 |G o=>
 rw[e0]at P;cases o with
 |L=>exact MG Y R apq W e0 λh2 t f apF=>P.2 aC _ f (apv.hN apF)
 |G v=>
  have tg:Cr it (172 i):=by
   clear P R apq W e0 hl;cases it with
   |gL=>exact bM H (hg _)
   |_=>exact d2
  show Uc Y R apq W e0 tg λu h1 t1 go=>go _ _ λh2 f r2 T2 W2 Cw=>?_;have K2:=apv.hN Cw;show 23 (agC ..);have jy:=lY apF V;show 44 (aM.of (Mk (s:=(84 h2 t1)) Y (λq=>by rw[jy]at q;cases q) f r2 hid (.a4 jy) λh3 t3 R3 K3=>?_));have P3:aH x (dC++aC) (84 h3 t3) (pD ih true apz (F.fv m v)) RB (λY s₃=>
      if Y=true then aM 3e0 x.A (234 w) (λapp s₄=>
       aM (3e0) x.A (409 [7e2,app]) (λa aps=>e7 3e0 x.A (.qv (.gV w [⟨172 i,apD,c,0⟩] apE aU) 0 (.N g) 7e2 x.ab) (403 s') aps) (j4 3e0 x.A x.ab λe s'=>fR) s₄) (j4 3e0 x.A x.ab λe s'=>fR) s₃
      else e7 3e0 x.A (.qv (.gV w [⟨172 i,apD,c,0⟩] apE aU) 0 (.N g) 7e2 x.ab) (403 s') s₃) (λa a=>fR):=by
   show P.aF λq Ct b apA u4 S K4 r4 P4=>?_;cases r4;have E:Kp (dC++aC) b x h2 apA.M:=K3.aV (296 K4);have W4:=W2.kj f H E;have apB:=T2.kj (f.eH E) W4.2;have Uu:lC wr dC (aC++b) x h0 apA.M:=K2.aV E (MQ W2 E);have apt:dC++aC++b=dC++(aC++b):=D.eO ..;have MR:(dC++(aC++b))[j]? =5e1:=by
    rw[<-apt,379 hp];exact hp
   rw[apt]at S apB;have MT:Wr x (dC++(aC++b)) apA.M wr:=apt▸W4.1;cases q with
   |false=>
    rw[d6 al.lK];exact hl Ct x dC (aC++b) h0 apA Q g wr p Y V S Uu apB MT MR P4
   |true=>
    rw[eX H];show eW (he Ct x _ apA _ (λa a=>fR) Y V S (P4.aF λapp st5 n s5 u5 apr apx r5 B=>?_)) 51e5 no;have W5:=MT.kj S H apx;have T5:=apB.kj (S.eH apx) W5.2;have KW5:lC wr dC (aC++b++n) x h0 s5.M:=Uu.aV apx (MQ MT apx);have a5:dC++(aC++b)++n=dC++(aC++b++n):=D.eO ..;have apC:(dC++(aC++b++n))[j]? =5e1:=by
     rw[<-a5,379 MR];exact MR
    rw[a5]at apr T5 r5;have Uv:Wr x (dC++(aC++b++n)) s5.M wr:=a5▸W5.1;cases yH:st5.dM j with
    |L=>rw[yH]at B;exact B.ak
    |G o=>
    rw[yH]at B;cases o with
    |az l t=>
     show oA B.gu λhz aqg=>?_;show eW (aM.of (Lx (Q:=λa aps=>e7 3e0 x.A (.qv (.gV w [⟨172 i,apD,c,0⟩] apE aU) 0 (.N g) 7e2 x.ab) (403 s') aps) (EE:=λa a=>fR) apr apC yH r5 (ahi hz ⟨λa q=>(nomatch q),λC s6 aqU R6 apu aqV=>?_⟩))) 51e5 no;have W6:=Uv.kj apr H apu;have T6:=T5.kj (apr.eH apu) W6.2;have KW6:lC wr dC (aC++b++n++C) x h0 s6.M:=KW5.aV apu (MQ Uv apu);have apy:dC++(aC++b++n)++C=dC++(aC++b++n++C):=D.eO ..;have hp6:(dC++(aC++b++n++C))[j]? =5e1:=by
      rw[<-apy,379 apC];exact apC
     rw[apy]at R6 T6;exact hl _ x dC _ h0 s6 Q g wr p Y V R6 KW6 T6 (apy▸W6.1) hp6 aqg
    |_=>exact B.ak
  exact eW (ahh ht _ x _ _ _ (λa a=>fR) Y V R3 P3) 51e5 no
def ahk{m a n:PySem.a0}{e:10e4}{aU:dA}{r:cD}{it:It}{k j:I}{F:MS}{w1 w2:I}:JE d kl (133 m n a e r) it k j F (gN 32e5 w2 λo=>o.ak 24e8 λu=> .no w1):=by
 intro x dC aC h0 s Q i wr p Y w R apv apq W q P;show P0 ?_;cases e0:it.at F k with
 |L=>rw[e0]at P;exact P.ak
 |G o=>
 rw[e0]at P;cases o with
 |L=>exact MG Y R apq W e0 λh2 t h b=>P.2 aC _ h (apv.hN b)
 |G v=>exact P.ak
universe e
section
variable{x:Fx}{J aC:aW}{F bR:MS}{s s1 s':ae}{cs sc:cD}{m d:I}{apt:aI}{wr:D aI}{h h' h0:ai}
def jZ.Cy(apq:jZ x J h it k iv wr):jZ (ng x cs sc apt) J h it k iv wr:=by
 cases apq with
 |ej S=>exact .ej S
 |gL e S ne=>exact .gL e S ne
 |dS s hr=>exact .dS s hr
 |aR apC hz=>exact .aR apC hz
def Wr.Cy(W:Wr x J h wr)(hL:apt∉wr):Wr (ng x cs sc apt) J h wr:=by
 intro a s;show oA (W a s) λA e=>?_;show⟨⟨A.d3,λq=>?_,A.fa,A.jY,A.cp⟩,e⟩;rcases q with H|⟨q,_⟩
 ·exact hL s
 ·cases q
def ahl(apq:jZ x J s.M it k iv wr){Q:0e5}{EE:0e5}(h:Q (.N iv) s):96 (qu (.N iv)):=by
 cases apq with
 |ej S=>
  cases S with
  |iL S=>
   cases S with
   |ad l b aP _ _ m no r et ne=>exact ahm et h
   |j6 i p _ _ v et ne=>exact ahm et h
  |X l b aP _ _ m r et ne=>
   (show dV et λo e1 e2 e3=>?_;try clear et);show PR (apq:= "tuple_iterator") ⟨o,e1,e2⟩ PySem.apu.ahn (nw PySem.apu.ahn ⟨o,e1,e2⟩ PySem.apu.entry_tuple_iterator_iter ?_ (PySem.apu.args_tuple_iterator_iter_1 _));refine aY _ _ (bk (.N iv)) _ _ s;exact bX ⟨_,H, "tuple_iterator",_,⟨o,e1,e2⟩,PySem.apu.slot_tuple_iterator_next.bZ,h⟩
 |gL n S ne=>exact ag3 n h
 |dS w hr=>exact wpAny_pyIter_rangeiter hr h
 |aR apC hz=>exact apC.2.2 s Q EE (λa a a e=>e) (λa a e=>e) h
def aK.aho(R:0e9)(hz:x.fz=false)(hL:s.M.ao apt=L)(W:Wr x J s.M wr)(d:48e5)
  (R':aK (ng x cs sc apt) (J++aC) bR s') (K':lC wr J aC (ng x cs sc apt) s1.M s'.M) (K0:Kp dC m1 x h0 s.M) (MU:J=dC++m1) (apw:∀a∈wr,46e4=L):206 ⟨bR.O,F.T,bR.bG⟩/\Kp dC (m1++aC) x h0 s'.M:=by
 have P:∀a o,4e4=0e4->¬fr (ng x cs sc apt) a:=by
  intro a o e apu;rcases apu with H|⟨q,_⟩
  ·exact nN (hL.bi.aV e)
  ·cases q
 have apv:lC wr J aC x s.M s'.M:=by
  show⟨λa o w e t f A j=>K'.bS a o w (d a o e) t f (P a o e) j,λa o w e f A=>K'.js a o w (d a o e) f (P a o e),λa o w e t n=>K'.iV a o w (d a _ e) t n,λa o w e=>K'.g5 a o w (d a o e),λa app=>?_⟩;cases apD:s.M.ao a with
  |L=>rfl
  |G o=>exact 224 (K'.fk a app) (d a o apD)
 have bS:f8 J (J++aC) s.M s'.M:=by
  have apA:∀a o,4e4=0e4->¬uh o->a∉wr:=λa o e apz w=>apz ((W a w).1.cp o e);show⟨λa aP e=>?_,λa aP e o=>?_,λa b n e o=>?_,λi p e=>⟨p,by rw[379 e];exact e,H⟩,(by intro c q apq;(show kX apq λo vs t e a b r=>?_;try clear apq);exact⟨o,vs,t,apv.iV c o (apA c o e λz=>nG ((Bu a b).bi.aV z.2.2.2)) e (Bu a b) (R.KU e a),a,b,r⟩)⟩
  ·(show gD e λo j S n hd=>?_;try clear e);exact⟨o,K'.bS a o (apA a o j λq=>q.1 _ _ hd) (d a o j) 57e0 56e8 (P a o j) (λq=>R.By q j _ _ hd S),S,n,hd⟩
  ·(show gD e λob j S n hd=>?_;try clear e);exact⟨⟨ob,K'.bS a ob (apA a ob j λq=>q.1 _ _ hd) (d a ob j) 57e0 56e8 (P a ob j) o,S,n,hd⟩,λq=>(46e3).ak o λq=>nN ((323 q) j)⟩
  ·exact⟨K'.bS a _ (apA a _ e λq=>q.2.1 _ _ H) (d a _ e) H (R.lv e λes n q=>by cases q) (P a _ e) o,λq=>(46e3).ak o λq=>nN ((323 q) e)⟩
 have apE:∀a o,¬14e2->4e4=0e4->¬68 (J++aC):=λa o h1 h2 h3=>(jt.mp h3).ak h1 λh=>nN ((323 h) h2);have apx:∀a,FA x a->a∉wr:=λa f w=>(W a w).1.fa f;have ec:∀a o,FA x a->4e4=0e4->∃o',s'.M.ao a=G o'/\o'.bf=o.bf:=by
  intro a o f e;show dV (K'.js a o (apx a f) (d a o e) f (P a o e)) λo' e1 A e2=>?_;exact⟨o',e1,e2⟩
 have dm:∀c u,s.M.pP c u->¬cy J c->s'.M.pP c u:=by
  intro c u apq no;(show aN apq λo e hd=>?_;try clear apq);show⟨o,K'.bS c o (λw=>((W c w).1.cp o e).2.2.1 _ hd) (d c o e) (Bs hd) 55e3 (P c o e) no,hd⟩
 show⟨⟨R'.d8,R'.cU,R'.O,R'.nd,R'.gy,R'.up,⟨?_,λk v a b=>?_⟩,λa app=>(R.vE a app).ak λo e=>apE a o (R.bI a app) e,R.hJ,R.b3,λz n c S=>?_,λl C e B=>?_,λa app=>⟨(121 app).1,(R.vF a app).ak λo e=>apE a o (121 app).2 e⟩,R'.dD,R'.os,R'.cW⟩,?_⟩
 ·obtain(⟨m,⟨o,es,ep,e,hd,hs⟩,hm⟩):=R.bq.iN;have:∃o',s'.M.ao x.ab.cY=G o'/\o'.bf=o.bf:=by
   by_cases q:FA x x.ab.cY
   ·exact ec _ _ q e
   ·exact⟨o,K'.bS _ o (λw=>(W _ w).1.fr 2e6) (d _ o e) (tL hd) q (P _ o e) (R.bI _ 2e6),H⟩
  (show aN bb λo' E apy=>?_;try clear bb);show(312 ⟨o',es,ep,E,apy.aV hd,hs⟩);show aN (hm k v a b) λu e1 r=>?_;exact⟨u,e1,30e4⟩
 ·obtain(⟨c,u,e1,e2,r,no⟩):=200 k v b;show aN (id e2) λo e3 A=>?_;exact⟨c,u,e1,dm c _ e2 no,30e4,apE c _ no e3⟩
 ·show oE (R.hj z n c S) λw apw=>?_;exact⟨w,dm c w apw (R.bI c (247 z n S))⟩
 ·exact(R.gz l C e B).eH λa o e1 e2=>ec a o ⟨l,C,e,B,e1⟩ e2
 ·subst MU;have V:∀b o,h0.ao b=0e4->b∉wr:=λb o e z=>224 (apw b z) e;show⟨λa o e t f g j=>apv.bS a o (V a o e) (K0.bS a o e t f g j) t f g λq=>?_,λa o e f g=>?_,λa o e t n=>apv.iV a o (V a o e) (K0.iV a o e t n) t n,λa o e=>?_,λa app=>?_⟩
  ·rcases 46e3 with q|q
   ·exact j q
   ·exact 224 (K0.fk a q) e
  ·show dV (K0.js a o e f g) λo1 e1 c1 d1=>?_;show dV (apv.js a o1 (V a o e) e1 f g) λo2 e2 c2 apr=>?_;exact⟨o2,e2,c2.aV c1,apr.aV d1⟩
  ·show oE (K0.g5 a o e) λo1 e1=>?_;exact apv.g5 a o1 (V a o e) e1
  ·rcases jt.mp app with q|q
   ·exact K0.fk a q
   ·cases apD:h0.ao a with
    |L=>rfl
    |G o=>
     show oE (K0.g5 a o apD) λo1 e1=>?_;exact nN ((323 q) e1)
universe e
section
variable{x:Fx}{J:aW}{F:MS}{s:ae}
def aK.MV(R:0e9){wr:11e9}(r:∀a∈wr,o5 x J s.M a)(h:∀b o,b∉wr->8e8=0e4->11e8=0e4):f8 J J s.M h':=by
 show(422 ⟨p,e,H⟩ (h b q (416 ((r b z).cp q e)) e))
 ·show gD e λo e c n dd=>?_;exact⟨o,h b o (λz=>((r b z).cp o e).1 _ _ dd) e,c,n,dd⟩
 ·show gD e λo e c n dd=>?_;exact⟨⟨o,h b o (λz=>((r b z).cp o e).1 _ _ dd) e,c,n,dd⟩,no⟩
 ·exact⟨h b _ (λz=>((r b z).cp _ e).2.1 _ _ H) e,no⟩
universe e
section
variable{ih:Ih}{d:I}{sc cs:cD}{m:Tg}
def yI(ih:Ih)(m:Tg)(it:apw)(rl:It->I->MS->2e9)(F:MS):3e2:=(tC ih it F).aF λvs F=>gB (oQ vs m) 157 ((h9 (rl vs F.O.U ⟨F.O++[2e0],xD m F.T,F.bG⟩)).aF λa bR=>gX a 117 (.Y (.Z F.O.U) ⟨bR.O,F.T,bR.bG⟩))
def Uw(x:Fx)(h0:ai)(J:aW)(h:ai)(v:V)(p:af×aI):Prop:=RV J h v p.1/\(∃m,h.Ns p.2 m)/\o5 x J h p.2/\h0.ao p.2=L
def Ux{B z:PySem.a0}{apE:10e4}{it:apw}{W:PySem.a0}{aU:dA}{F:MS}{rl:It->I->MS->2e9}(apC:un cs sc m)(MW:sc.bq.bZ 33e8≠12e3)(hi:PI ih d sc z it)
  (hl:∀vs j aS,oQ vs m=true->JE d (qa cs sc) (133 B W z apE cs) vs 0 j aS (rl vs j aS)) {x:Fx} {J:aW} {s:ae} {Q:af×aI->ae->Prop} {EE:0e5} (Y:3e6) (nZ:41e3) (R:0e9)
  (P:64 (yI ih m it rl F) (Uw x s.M)):aM 3e0 x.A (234 z) (λapp s₁=>259 (qu app) (λit s₂=>259 (SA []) (λcP s₃=>
   aY (3e0) x.A (zE cs x.ab.g8 (lZ x.ab.b3 cs.bq []) [] x.ab.pv L .L (G x.ab)) (λjK s₄=>
    e7 (3e0) x.A (.w9 (133 B W z apE cs) 0 it cP (318 cs x.ab)) (λr s'=>match r with
     | .Y _=>Q (cP,jK.cY) s'
     | .dI x=>fR) s₄) EE s₃) EE s₂) EE s₁) EE s:=by
 have hz:x.fz=false:=by
  cases q:x.fz with
  |false=>rfl
  |true=>exact bM (nZ▸Y.iD q) MW
 show hi F x J s _ EE Y nZ R (P.yE λvs aS u s1 u1 R1 apu r1 k=>?_);show fU k λhtg k=>?_
 ·show Ug R1 apu r1 λapr wr h2 t n apF T2 apy fr=>?_;have MX:69 u h2:=by have:=apu.aV apF;rw[D.dZ]at bb;exact bb
  show Ka ?_ (by refine 0<=_;exact 31e8);have hk3:=jW (h:=h2) (308 ([]:2e4).gF);have i:=n.Li (p:=(h2.O.an,[])) (o:= 2e0) hk3 (vG _) (λa apq=>xY apq ⟨11e7,Lk _⟩) (D.jd.bn ⟨nofun,.aR⟩) n.m8
   ⟨H,31e8,[],⟨_,9e9⟩,.aR⟩ t
  have E:=MX.aV i.2;have apA:=apy.kj n H i.2;have aps:=T2.kj (n.eH i.2) apA.2;show ahp (λapp apD e=>apC.MN app.1 (by rw[<-e];exact MO apC.nd apD)) (λapp apD=>nomatch apD) (λl hns apB=>?_) apC.d9;generalize aqW:h2.b6 {bj:= .aB "list",bf:= .cH ([]:D af).gF}=H3 at*;have hY:∀a o,H3.ao a=0e4->l.ao a=0e4:=λa o e=>apB.mq a o 42e2 35e5;have R4:=aK.ahg (apt:=H3.O.an) apC Y nZ hz i.1 H hns hY t;rw[ahb nZ];have hLw:H3.O.an∉wr:=λq=>by
   show sN (apA.1 _ q) λc o e=>?_;exact 292 9e1
  have apx:=aps.kj (aC:=[]) (h':=l) (by rw[D.dZ];exact jc hY) (λa apq o e=>hY a o e);have apv:Wr x (J++u++[(h2.O.an,[])]) l wr:=λa apq=>by
   show sN (apA.1 a apq) λA o e=>?_;exact⟨⟨A.d3,A.fr,A.fa,A.jY,λo' w=>by rw[hY a o e]at w;cases w;exact A.cp o e⟩,o,hY a o e⟩
  have gj:e7 3e0 x.A (.qv (133 B W z apE cs) 0 43e7 (.N h2.O.an) (ng x cs sc H3.O.an).ab) (λr s'=>match r with
     | .Y _=>Q (.N h2.O.an,H3.O.an) s'
     | .dI x=>fR) (375 l t):=by
   show zv (hl vs aS.O.U _ htg (ng x cs sc H3.O.an) (J++u++[(h2.O.an,[])]) [] l (375 l t) (λs'=>Q (.N h2.O.an,H3.O.an) s') apr wr (h2.O.an,[]) (ahf apC Y nZ) H
    (296 R4) lC.b8 apx.Cy (by rw[D.dZ];exact apv.Cy hLw) (by rw[D.dZ,<-n.cU,28e5,I.jj];rfl) ?_) λr s' h=>h
   generalize rl vs aS.O.U ⟨aS.O++[.az [] false],xD m aS.T,aS.bG⟩=r at k⊢;have C:H3.ao H3.O.an=L:=52e0;cases r with
   |a8=>exact k.ak
   |no=>exact k.ak
   |aT a bR ob=>
    cases a with
    |v=>exact k.ak
    |b=>exact k.ak
    |f aqh=>
     cases aqh with
     |bk v=>exact k.ak
     |next=>
      have S:64 ((Internal.R.Y (.Z aS.O.U) ⟨bR.O,aS.T,bR.bG⟩).ci ob) (Uw x s.M):=k;show⟨(aH.ci S).1,λaC s' g K'=>?_⟩;have S:=(aH.ci S).2;obtain⟨m',V,_⟩:=g.bq.iN;show oA (aK.aho (apt:=H3.O.an) (wr:=wr) i.1 hz C apA.1 (s1:=(375 l t)) hY g K' E (D.eO ..) fr) λR6 K6=>?_;have apz:∀{p:Prop},(∃o,H3.ao H3.O.an=0e4)->p:=λ⟨o,e⟩=>nN (C.bi.aV e);have ap:o5 x (J++u++[(h2.O.an,[])]++aC) s'.M H3.O.an:=by
       show⟨g.bI _ 2e6,λq=>apz (i.1.vE _ q),λq=>apz (i.1.vF _ q),g.hJ _ 2e6,λo e=>?_⟩;(show uD V λo' es ep w hd c=>?_;try clear V);have w:s'.M.ao H3.O.an=G o':=w;rw[e]at w;cases w;show⟨λc c q=>?_,λc c q=>?_,λc q=>?_,?_⟩
       ·rw[hd]at q;cases q
       ·rw[hd]at q;cases q
       ·rw[hd]at q;cases q
       ·exact tL hd
      have e:J++u++[(h2.O.an,[])]++aC=J++(u++[(h2.O.an,[])]++aC):=by simp only[D.eO]
      show S.2 (u++[(h2.O.an,[])]++aC) _ (_,_) (e▸R6) K6 ⟨.Z _ (h2.O.an,[]) ?_,⟨m',V⟩,e▸ap,uj (s:=(375 H3 t)) E 11e7⟩;rw[<-e,D.kO (by rw[<-n.cU];simp),<-n.cU,28e5,I.jj];rfl
  exact aco gj (ahl (x:=ng x cs sc H3.O.an) apx.Cy gj)
def ahq{t h:PySem.a0}{l:10e4}{it:apw}{q:PySem.a0}{aU:dA}{F:MS}{rl:It->I->MS->2e9}(apC:un cs sc m)(apE:sc.bq.bZ 33e8≠12e3)(C:PI ih d sc h it)(hs:∀ab x,u8 h ab x=b9 x)
  (hl:∀vs j aS,oQ vs m=true->JE d (qa cs sc) (133 t q h l cs) vs 0 j aS (rl vs j aS)):
  43 (133 t q h l cs) (yI ih m it rl F):=by
 intro x J s Q EE Y f R P;show 23 (arm_eval_ListComp ..);dsimp only;have W:=ML (bt:=cs) (ab:=x.ab) λp apq c=>Y.vz p.1 (by
  obtain⟨n,k⟩:=p
  dsimp only at c
  subst c
  have:=apC.eG n apq
  unfold ez.dB
  rw[f];exact bb)
 have apA:∀app∈cs.bq,app.2= .cV->cs.bq.bZ app.1=12e3:=λapp apD e=>by
  obtain⟨n,k⟩:=app;dsimp only at e;subst e;exact MO apC.nd apD
 show acq (g:=⟨q,h,l,0⟩) (gs:=[]) H (λv=>hs x.ab v) W apC.d9 apA ?_;show Ux (Q:=λp s'=>∃m,s'.M.Ns p.2 m/\∀h',ai.fy p.2 s'.M h'->Q p.1 {s' with M:=h'}) apC apE C hl Y f R ?_;generalize yI ih m it rl F=r at P⊢;cases r with
 |no=>exact P.ak
 |a8=>exact P
 |aT v bR ob=>
  show⟨P.1,λaC s' u o V r=>?_⟩;(show lG r λr S b B=>?_;obtain⟨m',hm⟩:=S);show⟨m',hm,λh' w=>?_⟩;have b:∀a∈ [u.2],o5 x (J++aC) s'.M a:=λa i=>by rw[D.cZ.mp i];exact b
  have z:=V.hN (wr:=[u.2]) (λa i=>by rw[D.cZ.mp i];exact B) (nf w);exact P.2 aC _ _ (o.hN b (nf w) s'.a1) z (dP (o.MV b (nf w)) r)
universe e
section
variable{x:Fx}{J:aW}{F:MS}{s:ae}{Q:af->ae->Prop}{EE:af->ae->Prop}
def MY(R:0e9)(b:151 a aP)(h:cx J s.M l aP)(p:43e6)(P:187 (.y l.U t)):
  321 "len" [2e2]:=by
 have r:=iw h;have e:(((bP.mk aP).an:I):K)=(l.U:K):=by rw[<-r];rfl
 show call_len_list b (by rw[e];lia) ?_;rw[e];exact 50e1
def int_bool(R:0e9)(P:187 (.y (if b then 1 else 0) t)):96 (aX (.aB "int") [.bp b]):=
 call_int_bool 50e1
def bytes_list(Y:3e6)(R:0e9)(b:151 a aP)(h:cx J s.M l aP)(v:43e6)(m:lP l=G ns)(hr:ns.dJ (289 (i<256))=true)
  (P:187 (.ch (ns.aj λi=>48e2))):96 (aX 27e0 [2e2]):=by
 have apy:=K9 m h;have w:=iw h;show call_bytes_ints (vs:=aP) b apy (λn e=>?_) (by rw[f0];lia) Y.e8 λh' t k p=>?_
 ·have:=D.ib.mp hr n e;simpa using bb
 ·have E:=R.jw p k;have r:byteArr ns=⟨ns.aj λi=>48e2⟩:=H;rw[r];show P.bk E.1 E.2 (.ch _ _ ?_);rw[D.fq,<-apy.U];lia
def tuple_list(R:0e9)(k:151 a aP)(r:cx J s.M l aP)(p:43e6)(P:187 (.X l)):
  96 (aX 26e5 [2e2]):=by
 have n:=iw r;show call_tuple_list k (λh' m=>?_) (364 aP.U);have h:∀b o,8e8=0e4->(h'.b6 (307 32e4)).ao b=0e4:=λb o e=>104 (m b o e);have E:=R.jw h s.a1;exact P.bk E.1 E.2 (.X l _ aP ⟨_,9e9,H,_,H⟩ p (hK (jc h) r))
def Uy(R:0e9)(e:4e4=15e1)(p:106 b.U)(P:187 (2 b.U)):321 "len" [2e2]:=by
 have h:47e7 :=(51 e);show PyProof.Rows.call_len_slot (n:=(b.U:K)) h BA.JG (λk r=>nw BA.JG h BA.entry_len ?_ (BA.abI _)) (by exact K.not_ofNat_neg b.U) bN 50e1;refine aY _ _ (dL.w3 2e2>>=_) _ _ s;exact bg (uU e (bg (wpAny_mkInt (bX ⟨_,H,r⟩))))
universe e
def MZ:82 [a]->∃u,us=[u]/\145 a:=by
 intro r;cases r with|aQ r q=>cases q;exact⟨_,H,r⟩
def ahr:82 [a,b]->∃u v,us=[u,v]/\145 a/\RV J h b v:=by
 intro r;cases r with
 |aQ r q=>
 (show aN (MZ q) λv x s=>?_;subst x);clear q;exact⟨_,_,H,r,s⟩
section
variable{x:Fx}{J:aW}{F:MS}{s:ae}{Q:af->ae->Prop}{EE:af->ae->Prop}{d:I}{h':ai}
def vU(R:0e9)(r:17 a u)(h:lR a F=G l):∃apr aP,u= 43e7/\151 apr aP/\cx J s.M l aP/\l.U<=16777216:=by
 cases r with
 |ad m t apr aP e no b k=>cases ar.G.cF h;exact⟨apr,aP,H,e,k,b⟩
 |Z i p v=>
  show aN (ar.k7.mp h) λo e h=>?_;show sO (aps.Rv h (42 _ e v)) λaP n k w b=>?_;exact⟨_,aP,H,n.iG,k,b⟩
 |_=>exact nN h
def ahs:∀{a b:D K},a.qw b->a.tu (· <= ·)->b.tu (· <= ·)->a=b:=λp h1 h2=>D.qw.eq_of_pairwise (le:=(· <= ·)) (λa b s s x app=>K.le_antisymm x app) h1 h2 p
def Uz(a b:K)(l:D K):vi a (b::l)=if a<=b then a::b::l else b::vi a l:=H
def M0(a:K):∀l,(vi a l).qw (a::l)
 | []=>D.qw.b8 _
 |b::l=>by
  rw[Uz];split
  ·exact D.qw.b8 _
  ·exact((M0 a l).aQ b).aV (D.qw.swap a b l)
def aht(a:K)(l:D K):l.tu (· <= ·)->(vi a l).tu (· <= ·):=by
 induction l with
 |aR=>exact λr=>D.pairwise_singleton ..
 |aQ b l e=>
  intro h;show oA (D.L9.mp h) λh1 h2=>?_;rw[Uz];by_cases x:a<=b
  ·rw[eX x];show D.L9.bn ⟨λc s=>?_,h⟩;rcases 52e6 with H|s
   ·exact x
   ·exact K.dW x (h1 c s)
  ·rw[d6 x];show D.L9.bn ⟨λc s=>?_,e h2⟩;rcases D.eR.mp ((M0 a l).mem_iff.mp s)with H|s
   ·exact K.le_of_not_le x
   ·exact h1 c s
def M1:∀l,(xy l).qw l
 | []=>D.qw.b8 _
 |a::l=>(M0 a _).aV ((M1 l).aQ a)
def UA:∀l,(xy l).tu (· <= ·)
 | []=>D.tu.aR
 |a::l=>aht a _ (UA l)
def ahu(r:tq us ns):82 (ns.aj λi=> .y i t):=by
 induction r with
 |aR=>exact .aR
 |aQ n k r s=>exact .aQ (.y n t k) s
def UB{b:4e9}:∀{us:2e4},us.U=b.U->(∀(i:I) v,us[i]? =2e5->∃c t,b[i]? =G c/\v= .y c.aJ t)->82 (b.aj bB):=by
 induction b with
 |aR=>intro us s _;rw[D.J8.mp s];exact .aR
 |aQ c b ih=>
  intro us s x;cases us with
  |aR=>cases s
  |aQ u us=>
   (show gd (x 0 u H) λr t e a=>?_;subst a);cases e;clear e;exact .aQ (.y _ _ t) (ih (I.hG.cF s) λi v h=>x (i+1) v h)
def UC{l:5e6}:∀{ns:D K},lP (l.aj (·.1))=G ns->343 (nH p.1)=true:=by
 induction l with
 |aR=>exact λs=>rfl
 |aQ p l x=>
  intro ns h;obtain⟨k,v⟩:=p;rw[D.nX]at h;cases k<;>first|(cases h;done)|skip
  show aN (ar.ha.mp h) λa e s=>?_;rw[D.td,x e];rfl
def UD(r:Bq J h l bL):lP (l.aj (·.1))=G (bL.aj (·.1)):=by
 induction r with
 |aR=>rfl
 |aQ r _ ih=>
  show oE r.1 λt e=>?_;rw[D.nX,e];exact bC (ar.aj (_:: ·)) ih
def ahv(R:0e9)(r:17 a u)(P:10 (Qs a F)):321 "len" [u]:=by
 induction r using RV.cE with
 |ch b tk h=>exact len_bytes (I.dW h aq) 50e1
 |X l apr aP k h n=>
  have q:=iw n;have e:(((bP.mk aP).an:I):K)=((aP.U:I):K):=H;rw[q]at e;show len_tuple k (by rw[e];lia) ?_;rw[e];exact 50e1
 |ad l t apr aP e no h n=>exact MY R e n h P
 |ei b a e no h=>exact Uy R e h P
 |Z i p m=>
  show eD P λob e P=>?_;cases ob with
  |az l t=>
   show gp (42 _ e m) λw h aP k v=>?_;exact MY R k.iG v h P
  |au l=>
   show gp (42 _ e m) λw h aP k v=>?_;exact MY (l:=l.er) (t:=true) R k.iG v (393 D.lx) (by rw[D.lx];exact P)
  |eF b=>exact Uy R (42 _ e m).2.2 (42 _ e m).2.1 P
  |_=>exact P.ak
 |_=>exact P.ak
def ahw(e:Kj a F=G l):∃l',AT F a=G l'/\l=l'.aj (·.1):=by
 cases a with
 |Z i=>
  show aN 31e0 λl' h e=>?_;exact⟨l',h,e.bi⟩
 |_=>exact 19e2
def ahx(Y:3e6)(R:0e9)(r:17 a u)(e1:Kj a F=G l)(e2:lP l=G ns)(b:ns.U<64)(P:187 (8 ((xy ns).aj λi=> 6e5))):
  321 "sorted" [u]:=by
 (show aN (ahw e1) λl' j h=>?_;subst h)
 ·(show jA (x6 (yd R j r) (UC e2)) λa bL h n1 dd q=>?_;subst h);clear r e1;have e:=UD q;rw[e2]at e;clear e2;cases e;show oE dd.M2 λep p=>?_;show acD Y.e8 p n1 (by rw[D.fq]at b;exact b) λh' tk apr bI lf n v w k m a3=>?_;have e3:lf=xy (bL.aj (·.1)):=ahs (m.aV (M1 _).bi) a3 (UA _);have o:=(M1 (bL.aj (·.1))).length_eq;exact BS (us:=bI.f3) R n (by simpa using v.iG) w (by rw[D.fq];lia) (ahu (e3▸k)) P tk
def ahy(Y:3e6)(R:0e9)(p:169 as)(P:10 (AX fz n as F)):321 n us:=by
 show kQ P (λh P=>?_) λw P=>kQ P (λh P=>?_) λw P=>kQ P (λh P=>?_) λw P=>kQ P (λh P=>?_) λw P=>kQ P (λh P=>?_) λw P=>P.ak;all_goals rw[jv h]
 ·exact lz p P λa u r P=>ahv R r P
 ·exact lz p P λa u r P=>eD P λl e P=>by
   show aN 36e2 λl e1 e2=>?_;(show jA (vU R r e1) λapr aP f m p app=>?_;subst f);show sum_list Y.e8 m (K9 e2 p) λh' tk t' c=>?_;have E:=R.jw c tk;exact P.bk E.1 E.2 (.y ..)
 ·show gC_ p P λa V as us r p P=>lz p P λb apA S P=>m7 r P λi t tk P=>m7 S P λj u apq P=>max_two_ints Y.e8 λh' k c=>?_;have E:=R.jw c k;by_cases q:j>i
  ·rw[show jo i j=j by lia]at P;rw[eX q];exact P.bk E.1 E.2 (.y ..)
  ·rw[show jo i j=i by lia]at P;rw[d6 q];exact P.bk E.1 E.2 (.y ..)
 ·show lz p P λa u r P=>eD P λl e P=>?_;(show jA (vU R r e) λapr aP f m p app=>?_;subst f);show BN (C:=λw aP=>151 apr aP->321 "all" [43e7]) p P (λP m=>?_) m;have z:apr<s.M.O.an:=by(show aN m λo e w=>?_;try clear m);exact 9e1
  show call_all_walk (AK m ⟨s.M.O.an,_,_,_,_,_,λw=>true,H,J6.az (A:=x.A.fg) Y.e8 s.M.O.an apr (I.ip z) ⟨[]⟩,⟨⟨_,9e9,H,H⟩,m.at λo e=>35e5⟩,?_,λh' tk c=>?_⟩)
  ·intro i v _ _ _ h;simp at h
  ·have E:=R.jw (λb o e=>c b o (λhm=>bM 9e1 (420 (D.cZ.mp hm))) 35e5) tk;exact P.bk E.1 E.2 (.bp ..)
 ·exact lz p P λa u r P=>eD P λns e P=>fU P λg P=>fU P λhz P=>by
   show aN 36e2 λl e1 e2=>?_;exact ahx Y R r e1 e2 (I.si.mp g) P
universe e
section
variable{x:Fx}{J:aW}{F:MS}{s:ae}{Q:af->ae->Prop}{EE:af->ae->Prop}{d:I}
def ahz:(af.iQ b tk)= .iQ ⟨b.f3⟩ tk:=H
def ahA(Y:3e6)(R:0e9)(r:17 a u)(e:vh a F=G l)(P:187 (6 l)):25 (aX 19e6 [u]):=by
 induction r using RV.cE with
 |ch b tk h=>
  cases ar.G.cF e;show aM.of (list_bytes Y.e8 h λh' k cP f j q m=>?_);have w:cP.f3.U=b.U:=by rw[bP.J9];exact m.1
  show BS (us:=cP.f3) R j ⟨_,q,H,f,H⟩ 52e0 (393 D.fq) (UB w λi v n=>?_) P k;show gd (m.2 i v (by rw[<-bP.Qe];exact n)) λc u h1 h2=>?_;exact⟨c,u,by simpa using h1,h2⟩
 |Z i p t=>
  show aN 36e2 λo z e=>?_;cases o with
  |eF b=>
   cases ar.G.cF e;show hT (42 _ z t) λg h app=>?_;show aM.of (acz Y.e8 app h λh' k cP f j q m=>?_);have w:cP.f3.U=b.U:=by rw[bP.J9];exact m.1
   show BS (us:=cP.f3) R j ⟨_,q,H,f,H⟩ 52e0 (393 D.fq) (UB w λi v n=>?_) P k;exact m.2 i v (by rw[<-bP.Qe];exact n)
  |_=>exact 19e2
 |_=>cases e
def UE(Y:3e6)(R:0e9)(p:169 as)(P:10 (vj fz n as F)):25 (aX (.aB n) us):=by
 show kQ P (λh P=>?_) λw P=>kQ P (λh P=>?_) λw P=>kQ P (λh P=>?_) λw P=>kQ P (λh P=>?_) λw P=>kQ P (λh P=>?_) λw P=>P.ak;all_goals rw[jv h]
 ·show lz p P λa u r P=>?_;cases e:lR a F with
  |G l=>
   rw[e]at P;show oA (sj P) λhz P=>?_;(show jA (vU R r e) λapr aP j v p c=>?_;subst j);have S:=iw p;(show gD v λo z g k hd=>?_;try clear v);show aM.of (call_list_seq apr 2e6 z g hd (λh' app f q=>?_) (364 aP.U));exact R0 R f p ⟨app,q⟩ hz P s.a1
  |L=>rw[e]at P;exact eD P λl q P=>fU P λhz P=>ahA Y R r q P
 ·exact lz p P λa u r P=>eD P λl e P=>by
   (show jA (vU R r e) λapr aP j v p c=>?_;subst j);exact aM.of (tuple_list R v p c P)
 ·show lz p P λa u r P=>?_;have hN:10 (gN ((lR a F).cr lP) 52 λl=>(oP (l.dJ (289 (i<256))) true F).aF λw F=> 7 (.ch (264 48e2)))->25 (aX 27e0 [u]):=λP=>eD P λns e P=>by
   show aN 36e2 λl e1 e2=>?_;(show jA (vU R r e1) λapr aP j v p c=>?_;subst j);show oA (tY P) λm P=>?_;exact aM.of (bytes_list Y R v p c e2 m P)
  induction r using RV.cE with
  |y n t tk=>
   show oA (tY P) λm P=>?_;have m:=fo m;show aM.of (acI m.1 m.2 λt k=>?_);rw[ahz];show P.jS R k ?_;rw[bP.toList_replicate];exact .ch _ _ (by rw[D.Cz];lia)
  |_=>exact hN P
 ·show lz p P λa u r P=>m7 r P λn t tk P=>?_;show oA (tY P) λm P=>?_;have m:=fo m;show PK (b:=285 0) Y.j5 (.a4 ⟨n,tk,H,m.1,m.2,H⟩) λh' q f hz=>?_;exact R.BR f (by exact ai.cQ q) P s.a1 λw=>⟨H,by rw[D.Cz];lia,q⟩
 ·show lz p P λa u r P=>?_;induction r using RV.cE with
  |bp=>exact aM.of (int_bool R P)
  |_=>exact P.ak
universe e
def ahB(h:∀f as F,JC d f as F (rQ ih f as F))(a:∀f as F (J:aW) (s:ae) (Q:0e5) (EE:0e5),0e9->10 (rQ ih f as F)->kT F f):qX ih fz d x:=by
 intro f as F J s u us Q EE Y R rf e P;have go:10 (rQ ih f as F)->_:=λP=>i3.nq (a f as F J s Q EE R P) (h f as F x J s u us Q EE Y R rf e P);cases rf with
 |aa u=>cases u with
  |bJ=>exact⟨d2,aM.of (ahy Y R e P)⟩
  |aB=>exact⟨d2,UE Y R e P⟩
  |_=>exact go P
 |_=>exact go P
section
variable{bc:gR}{w:eA}{A:dg}{E:af->ae->Prop}{s:ae}
def ahC{S apr:aI}{us vs:2e4}{Q:0e5}(a:s.M.j8 S 29e5)(b:151 apr vs)(hz:us.U+vs.U<=16777216)
  (h:∀h',h'.j8 S ⟨us++vs⟩->166 S h'->157 .L):41 (260 "list.extend" [.N S,43e7]):=by
 show oE (id a) λn e=>?_;(show gD b λo r m k hd=>?_;try clear b);show nw PySem.apu.afZ (51 e) PySem.apu.entry_list_extend ?_ (PySem.apu.args_list_extend_2 _ _);refine aY _ _ (Builtin.D.va (.N S) 43e7 .L) _ _ s;unfold Builtin.D.va;show cL (th ⟨o,r,m⟩ λx=>?_);show pb (by simp) <|?_;show cL (ahD r hd λx=>?_);show cL (ahD e H λx=>?_);have p:¬(!(bP.mk us).jL&&Builtin.D.Lo ((188 us)+(188 vs)))=true:=extend_door (by rw[f0];exact hz);show sQ p λx x=>?_;show bg (listUpdate_at e H ?_ (by rw[f0];refine us.U<=_;exact I.Rq hz) (by rw[bP.size_append,f0];refine us.U+vs.U<=_;exact I.le_add_right_of_le hz));show bX ⟨_,H,h _ ?_ (ai.fy.eM ..)⟩;have:=Mm a (· ++(bP.mk vs));simpa using bb
universe e
section
variable{α:Type}[qO α]
def ahE{bL:D (α×af)}{v:af}(r:(bL.aj (·.1)).dT):((yy bL k v).aj (·.1)).dT:=by
 unfold yy;split
 ·rw[D.rB];have:(bL.aj ((·.1)∘λs=>if s.1=k then(s.1,v)else s))=bL.aj (·.1):=D.yz λp w=>by
   refine(if p.1=k then(p.1,v)else p).1=p.1;split<;>rfl
  rw[bb];exact r
 ·rename_i h;rw[D.sA,D.RZ];show⟨r,by simp,λa m b x e=>?_⟩;subst e;simp only[D.nX,D.map_nil,D.cZ]at x;subst x;show aN (D.sr.mp m) λp n e=>?_;exact h (D.p8.bn ⟨p,n,by simp[e]⟩)
universe e
def UF{apv:Type}[qO apv]{f:38e8}(e:∀{a b k s},f a k->f b s->mZ k s=bK (a=b)){m:5e6}{aC:31e6}{l:5e6}{bL:31e6}(apz:RK f J h m aC):RK f J h l bL->(bL.aj (·.1)).dT->RK f J h 46e1 (merged bL aC):=by
 induction apz generalizing l bL with
 |aR=>exact λr v=>r
 |aQ a w n=>exact λr x=>n (TJ e a.1 a.2 r x) (ahE x)
section
variable{x:Fx}{J:aW}{F:MS}{s:ae}{Q:af->ae->Prop}{EE:af->ae->Prop}{d:I}
def aK.M2(R:0e9){k:I}{l:5e6}{p:9e3}(n:F.O[k]? =G (.bw l))(m:J[k]? =5e1):nD x J s.M 7e2 l/\p.2=[]/\∀q,s.M.ao p.1=G q->iu q=false:=by
 show gp (42 k n m) λq v b e z=>?_;have a:b.ym/\∃es ep,b.bf= .bw es ep:=by rcases z with⟨_,⟨es,ep,a,hd,_⟩,_⟩|⟨_,⟨es,ep,a,hd,_⟩,_⟩<;>exact⟨a,es,ep,hd⟩
 show⟨⟨p.1,H,?_,z.f5 ((by intro h;(show aN h λbL d r=>?_;try clear h);exact⟨bL,377 b e d,r⟩)) (by intro h;(show aN h λbL d r=>?_;try clear h);exact⟨bL,377 b e d,r⟩)⟩,q,TL e a.1 a.2⟩;have h1:=R.gy p.1 ⟨p,D.ja m,D.dQ ..⟩;show sd.bn λq=>?_;rw[q]at h1;exact bM h1 aq
def ahF(r:Br J h l bL):343 (rM p.1)=true:=by
 induction r with
 |aR=>rfl
 |aQ r _ ih=>rw[D.td,ih,show _=_ from r.1];rfl
def UG(m:5e6):∀l:5e6,(46e1).U<=l.U+m.U:=by
 induction m with
 |aR=>intro l;exact 11e7
 |aQ p m ih=>
  intro l;have h1:=ih (iS l p.1 p.2);have h2:=TK p.1 p.2 l;simp only[D.MJ,D.m6];lia
def UH{i:I}{p:9e3}{l m:0e0}{v:V}{u:af}(R:0e9)(c:J[i]? =5e1)(d:p.2=[]){us:2e4}(h:s.M.j8 p.1 29e5)(n:169 l)(r:15e7)(e:lR v F=G m)(hz:l.U+m.U<=16777216)
  (oW:∀{h':ai} {a:2e4},h'.j8 p.1 ⟨a⟩->cx J h' (l++m) a->RO x.w J h' p o') (P:10 (276 o')):321 "list.extend" [7e2,u]:=by
 (show jA (vU R r e) λapr aP w j b hm=>?_;subst w);clear r;have h1:=iw n;have h2:=iw b;show ahC h j bN λh' o q=>?_;have apA:=R.m9 (o':=o') c (D.dQ ..) q (tZ h.iG) (λk=>oW o (.lV (hK k n) (hK k b))) s.a1;exact 266 14e9
def ahG{i j:I}{p q:9e3}{l m:5e6}(R:0e9)(d:J[i]? =5e1)(apE:18e7=G (.bw l))(t:J[j]? =G q)(app:F.dM j=G (.bw m))(hs:l.U+m.U<=900)(apD:i≠j)(c3:m.dJ (λp=>nI l p.1)=true)(c4:m.dJ (λp=>nI m p.1)=true)
  (P:10 (276 (.bw 46e1))):410 [7e2,.N q.1]:=by
 have C:p.1≠q.1:=λe=>apD (R.sg d t (D.dQ ..) (e▸D.dQ ..));show hT (R.M2 apE d) λv B apr=>?_;have c:=(R.M2 app t).1;have fl:=UG m l;have go:∀{apv:Type} [qO apv] {gY:x5 pw x.w apv} {f:38e8} (S:∀{a b k g},f a k->f b g->mZ k g=bK (a=b)) {k1 k2:31e6},s.M.qP gY p.1 k1->RK f J s.M l k1->s.M.qP gY q.1 k2->RK f J s.M m k2->(q.1==tr)=false->
   (∀{h'} {o:aA},(∃bL,o.qL gY bL/\RK f J h' 46e1 bL)->DK x.w J h' o 46e1)->410 [7e2,.N q.1]:=by
  intro apv _ gY f S k1 k2 d1 r1 h r2 n fV;show call_meetsIn PySem.apu.af0 d1.mX PySem.apu.entry_dict_update (PySem.apu.args_dict_update_2 _ _) (meets_dict_update gY p.1 q.1 C n) ⟨k1,k2,d1,h,by rw[f0,r1.cU,r2.cU];lia,λh' hm u hs=>?_⟩;have apA:=338 (.bw 46e1) d hs apr ⟨B,bN,(ai.lX.mp hm).f5 λo' w=>⟨w.1,fV ⟨_,w.2,UF S (tO k r2) (tO k r1) (Rw d1)⟩⟩⟩ s.a1;exact 266 14e9
 have apq:343 (nH p.1)=true->m.dJ (λp=>nH p.1)=true->410 [7e2,.N q.1]:=by
  intro h1 h2;show jA (x6 v h1) λapw k1 e1 n1 d1 r1=>?_;show jA (x6 c h2) λW k2 e2 n h r2=>?_;cases e1;cases e2;exact go BH d1 r1 h r2 n .a4
 have z:343 (rM p.1)=true->m.dJ (λp=>rM p.1)=true->410 [7e2,.N q.1]:=by
  intro h1 h2;show jA (BJ v h1) λapw k1 e1 n1 d1 r1=>?_;clear n1;show jA (BJ c h2) λW k2 e2 n h r2=>?_;cases e1;cases e2;exact go BI d1 r1 h r2 n .aE
 clear P go c fl hs app;cases m with
 |aR=>
  (show dV v λu u u A=>?_;try clear v;obtain(⟨_,_,r⟩|⟨_,_,r⟩):=A)
  ·exact apq (UC (UD r)) H
  ·exact z (ahF r) H
 |aQ pk m'=>
  rw[D.td]at c3 c4;have c3:=(ba c3).1;have c4:=(ba c4).1;obtain⟨pk,E⟩:=pk;cases pk with
  |y=>exact apq c3 c4
  |ag=>exact z c3 c4
  |_=>cases c3
def ahH(x:Fx):Ty x:=by
 intro i p o n id as F J s us Q EE d Y R w z c f P;have app:∀{a b:I},I.bY a b=true->a=b:=I.fZ;cases o with
 |az l t=>
  show kQ P (λh P=>?_) λg P=>kQ P (λh P=>?_) λg P=>fU P λh P=>?_
  ·cases app h;cases c;exact lz f P λv u r P=>aM.of (Lx R w z r P)
  ·cases app h;cases c;show lz f P λv u r P=>eD P λm e P=>?_;show oA (sj P) λhz P=>?_;show gp (42 i z w) λq apw aP S apq=>?_;exact aM.of (UH (o':= .az (l++m) _) R w q S apq r e (by rw[D.hM]at hz;exact hz) (λW V=>⟨q,hz,_,W,V⟩) P)
  ·cases app h;cases c;show BN f P λP=>?_;cases e:l.er with
   |aR=>rw[e]at P;exact P.ak
   |aQ v r=>rw[e]at P;exact aM.of (aeP R w z e P)
 |au l=>
  show kQ P (λh P=>?_) λg P=>kQ P (λh P=>?_) λg P=>fU P λh P=>?_
  ·cases app h;cases c;exact lz f P λv u r P=>aM.of (aeI R w z r P)
  ·cases app h;cases c;show lz f P λv u r P=>eD P λm e P=>?_;show oA (sj P) λhz P=>?_;show gp (42 i z w) λq apw aP S apq=>?_;show aM.of (UH (l:=l.er) (o':= .au (m.er++l)) R w q S apq r e (by rw[D.hM,D.lx]at hz;rw[D.lx];lia) (λW V=>⟨q,hz,_,W,?_⟩) P);rw[D.reverse_append,D.Sn];exact V
  ·cases app h;cases c;show BN f P λP=>?_;cases l with
   |aR=>exact P.ak
   |aQ=>exact aM.of (aeN R w z P)
 |bw l=>
  show fU P λh P=>?_;cases app h;cases c;show lz f P λv u r P=>?_;induction r using RV.cE with
  |Z j q apD=>
   show eD P λob apE P=>?_;cases ob with
   |bw m=>exact fU P λc1 P=>fU P λc2 P=>fU P λc3 P=>fU P λc4 P=>aM.of (ahG R w z apD apE (I.cz c1) (λe=>by subst e;rw[I.qJ]at c2;cases c2) c3 c4 P)
   |_=>exact P.ak
  |_=>exact P.ak
 |eF b=>
  show fU P λh P=>?_;cases app h;cases c;clear c;show lz f P λv u r P=>?_;induction r using RV.cE with
  |ch m tk hm=>
   have P:10 ((gu (b.U+m.U) true F).aF λg F=> 276 (.eF (b++m))):=P;show oA (sj P) λhz P=>?_;show hT (42 i z w) λq apw e=>?_;show acH Y.j5 e hz λh' A hs=>?_;have apA:=338 (.eF (b++m)) w hs (λB e2=>by rw[e]at e2;cases e2;rfl) ⟨q,by rw[D.hM];exact hz,A⟩ s.a1;exact 266 14e9
  |_=>exact P.ak
 |_=>exact P.ak
universe e
universe e
section
open PySem PySem.W PyProof.Rows PySem.Calls PySem.Spec PySem.SeqAt
open Builtin hiding id
open Builtin.ObjectAttr Builtin.Getset_descriptor
set_option backward.match.sparseCases false
abbrev yJ:2e4:=[22e7,22e5,6e9]
abbrev km(C t:aI):aA:=(336 2e8 #[.N t,.L,.L,.L,33e5,.L])
inductive ahI (C:aI) (h:ai):Prop
 |mk (nm q:am) (apC:aI) (bs bm a2:D af) (k0 k1 k2 k3 k5:ar af) (hC:h.ao C=G (uq nm q C apC bs bm true [] a2 false L L k0 k1 k2 k3 k5 "Exception.__new__")) (aqX:(af.N C::bm).hU (.aB "Exception")=true)
  (aqY:(af.N C::bm).hU (.aB "object")=true) (aqZ:(af.N C::bm).hU (.aB "AttributeError")=false) (aq0:(af.N C::bm).hU (.aB "NameError")=false) (pass:∀oC,refuseLoop oC "__setattr__" (.N C::bm)=b9 ()) (hm:bm=yJ\/bm= .N 38::yJ)
structure sB(C:aI)(h:ai):Prop where
 Z:ahI C h
 aC:∀oc od cd sl,h.ao C=G ⟨oc,od,.bj cd,sl⟩->cd.qt.hU (.aB "BaseException")=true/\cd.qt.hU (.aB "type")=false/\∀a,a≠38->cd.qt.hU (.N a)=I.bY a C
section
variable{bc:gR}{w:eA}{A:dg}{E:af->ae->Prop}{s:ae}{C:aI}
def mE{α:Type}{C:20e2}{a:α}{l:8e4}(h:C a)(x:∀q∈l,C q):∀q∈a::l,C q:=λq s=>(52e6).ak (λe=>e▸h) (x q)
def mN{α:Type}{C:20e2}:∀q∈([]:8e4),C q:=λs h=>bM h D.mn
def yK{p:Prop}(h:p):∀q∈D.gi n p,q:=λq m=>(D.ahJ m)▸h
def ahK{Q₁:0e5}(apv:sB C s.M)(h:Q₁ 24e0 {s with M:=(331 u).b6 49e3}):
  uX 6e2 A (.aX 41e5 (61 [2e8,u])) (uY Q₁ E) s:=by
 rcases apv.Z with⟨nm,q,apC,e,bm,a2,k0,k1,k2,k3,k5,x,_,_,_,_,_,hm⟩;clear apv;show codeAny_call_builtin_code (fQ.Pz _ PySem.apu.M3.sS) (sV (v:=()) (s':=s) (ps:=D.gi 7 (s.M.ao C=G _)) (D.gi 7 (uq nm q C apC e bm true [] a2 false L L k0 k1 k2 k3 k5 "Exception.__new__")) (by rcases hm with h|h<;>subst h<;>kernel_rfl) (yK x) ?_);show PySem.codeAny_builtinAt PySem.apu.M3.entry ?_;unfold Builtin.«BaseException.__new__»;show PySem.wpAt_bind (PySem.wpAt_bind (PySem.wpAt_stack λp uF=>PySem.ahL (sV (v:= "Exception") (ps:=D.gi 0 ku) (s':=s) [] av (yK d2) (PySem.ahL ?_))));show sV (v:= .kx (.bk (.N (331 u).O.an))) (s':={s with M:=(331 u).b6 49e3})
  (ps:=D.gi 9 (s.M.ao C=G _)++D.gi 1 (((331 u).b6 49e3).ao C=G _)) (D.gi 10 (uq nm q C apC e bm true [] a2 false L L k0 k1 k2 k3 k5 "Exception.__new__")) (by rcases hm with h|h<;>subst h<;>kernel_rfl) (λq m=>(300 m) (yK x q) (yK (299 x) q)) ?_
 rw[ai.iM];exact h
def ahM{e t:aI}{u:af}{Q:0e5}(apv:sB C s.M)(a:37e0=G (km C t))
  (h:∀h',(∀b o,b≠e->8e8=0e4->11e8=0e4)->(∃t,43e0=G (km C t))->157 .L):41 (260 "Exception.__init__" [9e6,u]):=by
 rcases apv.Z with⟨nm,q,apC,p,bm,a2,k0,k1,k2,k3,k5,r,_,_,_,_,_,hm⟩;clear apv;show JP (UI PySem.apu.M3.jI.ti PySem.apu.M3.initEntry ?_);show sV (v:=()) (s':=s) (ps:=[37e0=G _,s.M.ao C=G _,37e0=G _,s.M.ao C=G _]) [km C t,uq nm q C apC p bm true [] a2 false L L k0 k1 k2 k3 k5 "Exception.__new__",km C t,uq nm q C apC p bm true [] a2 false L L k0 k1 k2 k3 k5 "Exception.__new__"]
  (by rcases hm with h|h<;>subst h<;>kernel_rfl) (214 a r (214 a r mN)) ?_
 show sV (v:= .kx (.bk .L)) (s':={s with M:=(331 u).eM e (aA.t8 λx=>x.pW 0 9e8)})
  (ps:=D.gi 3 ((331 u).ao e=G _)) (D.gi 3 (km C t)) av (yK (104 a)) ?_
 show h _ (λb o k m=>?_) ⟨s.M.O.an,258 (104 a) H⟩;rw[ai.t9 _ _ _ _ k];exact 104 m
universe e
section
abbrev vV(s:ai)(e:aI):ai:=(s.b6 52e5).eM e λo=>{o with bw:=G s.O.an}
def ahN{x:Fx}{s:ae}{A:dg}{E:0e5}{C e t:aI}{n:I}{u:af}{Q:17e3}(apv:sB C s.M)(apw:dR.In 36e4 s.M)(p:37e0=G (km C t))
  (sa:iH 36e4 2e8 "__setattr__" =G 55e7) (hn:iH 36e4 2e8 4e6=G L)
  (h:∀h' w k hs tk m',(∀b o,b≠e->8e8=0e4->11e8=0e4)->w=s.M.O.an->43e0=G ⟨2e8,G w,.cp #[.N t,.L,.L,.L,33e5,.L],#[]⟩->
   h'.ao w=G (hI [⟨hs,140 tk,u⟩] m')->156 () k):aY 3e0 A (Tq 9e6 4e6 u) Q E s:=by
 obtain(⟨z,q,apC,apq,bm,a2,k0,k1,k2,k3,k5,i,W,R,_,_,V,_⟩):=apv.Z;clear apv;have apy:L5 s.M e (km C t) C L:=⟨p,H,H,d2⟩;show set_plain apw apy sa ?_;obtain(⟨a,g,d,tk,os⟩):=s;have r:=PySem.apu.store_object;have hm:171 a (Ay 2e8) (2e8::bm):=λA Q E s' k q=>by
  obtain(⟨a,g,d,tk,os⟩):=s';exact ahO (k C _ i) q
 have P:171 a (su 9e6 6e9) true:=apy.aB.iX λA Q E s' k q=>by
  obtain(⟨a,g,d,tk,os⟩):=s';show UJ (k C _ i) ?_;rw[R];exact q
 have c:171 a (pX 9e6) 2e8:=apy.aB;show UI r.slot.ti r.entry (@Td 3e0 _ _ ⟨a,g,d,tk+1,os⟩ "object.__setattr__" "object" "__setattr__" 9e6 [140 tk,u] [] _ r.d9 r.split P (r.pm 9e6 (140 tk) u) ?_);rw[osa_eq,PySem.refuse_eq];show 167 (c.at (bg (hm.at ?_)));rw[V];show 291 (c.at (bg ((Cd apw hn).at (bg 20e3))));refine aY _ _ (afJ 9e6 2e8 (140 tk) 4e6 u false) _ _ _;have f:(a.b6 52e5).ao e=G (km C t):=104 p;have app:e≠a.O.an:=298 p;have apA:(vV a e).ao e=G ⟨2e8,G a.O.an,.cp #[.N t,.L,.L,.L,33e5,.L],#[]⟩:=258 f H;have m:(vV a e).ao a.O.an=G (hI [] 0):=(ai.t9 _ _ _ _ (Ne.bi app)).aV 9e9;have j:((vV a e).eM a.O.an (aA.yt 4e6 42e1 (140 (tk+1)) u)).ao a.O.an=G (hI [⟨42e1,140 (tk+1),u⟩] 1):=258 m H;show sV (v:= .kx (.bk .L)) (s':=⟨(vV a e).eM a.O.an (aA.yt 4e6 42e1 (140 (tk+1)) u),g,d,tk+2,os⟩)
  (ps:=[a.ao e=G _,a.ao C=G _,(a.b6 52e5).ao e=G _,(vV a e).ao a.O.an=G _,(vV a e).ao a.O.an=G _,ai.ao _ a.O.an=G _])
  [km C t,uq z q C apC apq bm true [] a2 false L L k0 k1 k2 k3 k5 "Exception.__new__",km C t,hI [] 0,hI [] 0,hI [⟨42e1,140 (tk+1),u⟩] 1] av (214 p i (214 f m (214 m j mN))) ?_
 show h _ _ _ _ _ _ (λb o S l=>?_) H ?_ j
 ·exact(ai.t9 _ _ _ _ (298 l)).aV ((ai.t9 _ _ _ _ S).aV (104 l))
 ·exact(ai.t9 _ _ _ _ app).aV apA
universe e
universe e
section
open PySem PySem.W PyProof.Rows PySem.Calls PySem.Spec PySem.SeqAt
open Builtin hiding id
set_option backward.match.sparseCases false
structure ur(C:aI):Prop where
 bj:∀(h:ai) P,g9 h (KL P)->sB C h
 L2:∀P,iH (KL P) (.N C) "__init__" =G (G (.N 35))
 fn:∀P,yp (KL P) (.N 35)=G (.aB "function")
 sa:∀P,iH (KL P) (.N C) "__setattr__" =G (G (.bJ "object.__setattr__"))
 why:∀P,iH (KL P) (.N C) (nm 58)=G L
 cd:∀P,∃cd,uc (KL P) C=G cd/\cd.yr=true
 gx:∀P,iH (KL P) (.N C) "__getattr__" =G L
 ga:∀P,iH (KL P) (.N C) "__getattribute__" =G (G (.bJ "BaseException.__getattribute__"))
def CA{α:Type}{apB:iz}{h:ai}{t:9e4}{r:α}(x:∀(A:dg) (Q:14e6) (E:0e5) (e:ai) g d tk os,(∀b o,h.ao b=0e4->e.ao b=0e4)->Q r ⟨e,g,d,tk,os⟩->aY apB A t Q E ⟨e,g,d,tk,os⟩):e6 apB h t r:=
 λA Q E s k q=>by obtain(⟨e,g,d,tk,os⟩):=s;exact x A Q E e g d tk os k q
section
variable{x:Fx}{J aC:aW}{F:MS}{s:ae}{h0:ai}
def aK.UK(R:0e9)(l:∀a∈dU p,¬14e2/\¬fr x a/\¬FA x a/\lr<=a)(app:∀a∈dU p,∃ob,4e4=G ob/\(∀xs n,ob.bf≠ .cH xs n)/\∀b n,ob.bf≠ .qr b n)
  (hc:∀k v c,(41e7=18e8\/41e7=23e5)->19 F.T=2e5->x.ab.b3.bZ 5e5=G c->c∉24e3) (hn:(24e3).dT) (oW:f8 J (J++[p]) s.M s.M->RO x.w (J++[p]) s.M p o):165 J [p] ⟨F.O++[o],F.T,F.bG⟩ s:=by
 have j:∀a,68 (J++[p])->14e2\/a∈24e3:=λa h=>(jt.mp h).f5 id tX.mp;have g:∀a ob,4e4=G ob->((∃xs n,ob.bf= .cH xs n)\/∃b n,ob.bf= .qr b n)->¬14e2->¬68 (J++[p]):=λa ob e q no h=>(j a h).ak no λz=>by
  show dV (app a z) λapE P n1 V=>?_;rw[e]at P;cases P;rcases q with⟨xs,n,q⟩|⟨xs,n,q⟩
  ·exact n1 _ _ q
  ·exact V _ _ q
 have bS:f8 J (J++[p]) s.M s.M:=by
  show⟨λa aP e=>e,λa aP e no=>⟨e,?_⟩,λa b n e no=>⟨e,g a _ e 19e7 no⟩,λi q e=>⟨q,by rw[379 e];exact e,H⟩,λd d e=>e⟩;(show gD e λob t c n dd=>?_;try clear e);exact g a ob t (.a4 ⟨_,_,dd⟩) no
 show⟨R.d8,by simp[R.cU],λi apA q e1 e2=>?_,?_,λa w=>(j a w).ak (R.gy a) λz=>(l a z).2.2.2,λa w=>(j a w).ak (R.up a) λz=>(by show aN (app a z) λob e d=>?_;exact 9e1),⟨?_,λk v a b=>?_⟩,λa w h=>(j a h).ak (R.bI a w) λz=>(l a z).2.1 w,R.hJ,R.b3,R.hj,R.gz,λa w=>⟨(121 w).1,λh=>(j a h).ak (121 w).2 λz=>(l a z).2.2.1 w⟩,R.dD,R.os,R.cW⟩
 ·by_cases f:i<F.O.U
  ·rw[D.kO f]at e1;rw[D.kO (R.cU▸f)]at e2;exact se bS (λa d o e=>e) (R.O i apA q e1 e2)
  ·have h1:=(117 e1);rw[D.hM,D.RY]at h1;have S:i=F.O.U:=by exact I.aev h1 f
   clear h1;subst S;rw[28e5,I.jj]at e1;rw[<-R.cU,28e5,I.jj]at e2;cases e1;cases e2;exact oW bS
 ·rw[D.aew,D.RZ];show⟨R.nd,by simpa using hn,λa w b W e=>?_⟩;subst e;show aN (D.Lj.mp w) λq apw apD=>?_;exact(l a (by simpa using W)).1 ⟨q,apw,apD⟩
 ·obtain⟨m,hm,apq⟩:=R.bq.iN;show(312 hm);show aN (apq k v a b) λu e r=>?_;exact⟨u,e,30e4⟩
 ·obtain(⟨c,u,e1,e2,r,no⟩):=200 k v b;show aN (id e2) λob t dd=>?_;exact⟨c,u,e1,e2,30e4,λh=>(j c h).ak no (hc k v c a b e1)⟩
def aK.vW(R:0e9)(m:∀a∈dU p,o5 x J s.M a/\∃ob,4e4=G ob)(w:(24e3).dT)(q:f8 J (J++[p]) s.M s.M->RO x.w (J++[p]) s.M p o):165 J [p] ⟨F.O++[o],F.T,F.bG⟩ s:=
 R.UK (λa r=>⟨(m a r).1.d3,(m a r).1.fr,(m a r).1.fa,(m a r).1.jY⟩) (λa r=>(by show sN (m a r) λA ob e=>?_;exact⟨ob,e,(A.cp ob e).1,(A.cp ob e).2.1⟩)) (λk v c a b e h=>by
  obtain(⟨i,u,e1,⟨ob,n,dd⟩,_⟩):=200 k v b
  rw[e]at e1;cases e1
  exact((m c h).1.cp ob n).2.2.1 _ dd) w q
def Kp.vW(apv:56 J x h0 s.M)(b:∀a∈dU p,46e4=L):Kp J (aC++[p]) x h0 s.M:=
 ⟨apv.bS,apv.js,apv.iV,apv.g5,λa e=>(jt.mp e).ak (apv.fk a) λh=>b a (tX.mp h)⟩
universe e
def M4(hd:o.bf= 27e1)(h:o.bj= 2e8):uh o:=by
 show⟨λs s e=>?_,λs s e=>?_,λs e=>?_,?_⟩
 ·rw[hd]at e;cases e
 ·rw[hd]at e;cases e
 ·rw[hd]at e;cases e
 ·unfold iu;rw[hd,h];rfl
def UL:uh (hI es n):=⟨λs s e=>(nomatch e),λs s e=>(nomatch e),λs e=>(nomatch e),H⟩
def qb:Ih:=λtk F=>match tk with
 | .x (.l n)=>(mG F.T n 1000 F).aF λv F=> 7 (.v v)
 |_=> .no 0
def CB{n:I}{F:MS}:cj qb (.l n) F=mG F.T n 1000 F:=by
 unfold cj qb mG;dsimp only;cases lk F.T n<;>rfl
def CD{d:I}{id:am}{k:I}(s:hq id k=true)(h2:146 sc id=true):PX qb d sc (172 aU) (.l k):=λF=>by
 rw[CB];exact So s h2
def ahP{d:I}{e:cD}{id:am}{aU:dA}{k:I}{v:af}(a:hq id k=true)(h2:eu e id .ly=true)(n:19 gl=G (.aa v)){x:Fx}{J:aW}{F:MS}{s:ae}{Q:0e5}{EE:0e5}(Y:3e6)(b:x.ab.bt=e)(R:0e9)
  (h:∀aC s',206 F->38e6->Q v s'):25 (234 (172 aU)):=by
 show yi (d:=d) (F:=F) (aU:=aU) a h2 x J s _ EE Y b R ?_;unfold mG;rw[n];show⟨λw h=>(nomatch h),λaC s' u p m r=>?_⟩;cases r;exact h aC s' p m
def ahQ:findCls [] 22e7 46e7 (nm 166)=G (.oS (.bJ "Exception.__init__")):=av
def ahR{x:Fx}{J:aW}{F:MS}{s:ae}{p:b5 al}{Q:af×2e4->ae->Prop}{EE:0e5}(R:0e9)(h:Q (.bJ "Exception.__init__",[]) 42e3):96 (Me 22e7 (nm 166) p):=by
 obtain⟨m,hm,_⟩:=R.bq.iN;generalize r: "Exception" =apq;exact PySem.W.method_type (apv:=[]) (h₀:=nt) ⟨hm,λb o e=>19e2,31e8⟩ (λa o e=>19e2) (by rw[<-r];rfl) (by rw[<-r];decide+cn) (by rw[<-r];exact ahQ) H h
def ahS:D dA:=[⟨8,8,8,17⟩,⟨8,8,8,26⟩,⟨8,27,8,31⟩,⟨8,33,8,36⟩,⟨8,8,8,37⟩,⟨8,8,8,37⟩,⟨9,8,9,12⟩,⟨9,8,9,16⟩,⟨9,19,9,22⟩,⟨9,8,9,22⟩]
def fK(i:I):dA:=(ahS[i]?).ge ⟨0,0,0,0⟩
def M5(s:cD)(B:11e1):Prop:=B=[.a0 (.jR (.kM (190 165 0) (nm 166) (fK 1)) [190 164 2,190 58 3] [] (fK 4)) (fK 5),.pO [.kM (190 164 6) 20e5 (fK 7)] (190 58 8) (fK 9)]/\
 eu s (nm 165) .ly=true/\146 s (nm 164)=true/\146 s 20e5=true/\yB s (.kM (190 164 6) 20e5 (fK 7)) (190 58 8)=G L
def ahT{d:I}{x:Fx}{J:aW}{s:ae}{F:MS}{h0:ai}{C e t:aI}{v:V}{B:11e1}{sc:cD}{Q:34e5}{EE:0e5}(apv:ur C)(hB:M5 sc B)(Y:3e6)(f:41e3)
  (R:0e9) (jy:lk F.T 164=G (5 e)/\lk F.T 58=2e5) (W:Wr x J s.M [e]) (he:37e0=G (km C t)) (UM:h0.ao e=L) (K0:Kp J [] x h0 s.M)
  (h:∀aC s' bR w t hs tk m' u,206 bR->bR.O=F.O->bR.bG=F.bG->56 J x h0 s'.M->Wr x (J++aC) s'.M [e,w]->h0.ao w=L->e≠w->s'.M.ao e=G ⟨2e8,G w,.cp #[.N t,.L,.L,.L,33e5,.L],#[]⟩->
   s'.M.ao w=G (hI [⟨hs,.ag 20e5 tk,u⟩] m')->RV (J++aC) s'.M v u->Q .bA s'):25 (mh B x.ab):=by
 (show zq hB λM6 k1 k2 k3 aqi=>?_;try clear hB;subst M6);have hp:((fK 1).Mf==(fK 4).iF)=true:=av;have okN:∀k,k<261->hq 5e5 k=true->hq 5e5 k=true:=λj j h=>h;have n1:hq (nm 165) 165=true:=by decide+cn
 have n2:hq (nm 164) 164=true:=by decide+cn
 have n3:hq 20e5 58=true:=by decide+cn
 have P:∀{apq aC:aW} {aS:MS} {s1 i:ae},aK x apq aS s1->Wr x apq s1.M [e]->56 apq x s1.M i.M->Wr x (apq++aC) i.M [e]/\∀o,s1.M.ao e=0e4->i.M.ao e=0e4:=λapw W1 apA=>by
  have z:=W1.kj apw H apA;exact⟨z.1,λo m=>z.2 e (D.dQ ..) o m⟩
 show 51e6;show 27e5;rw[agb,TD Y,Cm H];show 44 29e2;show 27e5;rw[Tz,yw H];show iJ (ahP n1 k1 H Y f R λp s1 apw apA j=>?_);show oA (P R W apA) λW1 e1=>?_;clear W;show 25e5;have hE:cJ (kR qb d sc) [190 164 2,190 58 3] [28e2,35e2]:= 326 ⟨H,CD n2 k2⟩ ⟨H,CD n3 k3⟩;unfold TB;rw[show Ci (D.U [PySem.a0.dr (nm 164) (fK 2),PySem.a0.dr 20e5 (fK 3)]+([]:D TA).U) (144 (fK 4) [PySem.a0.dr (nm 164) (fK 2),PySem.a0.dr 20e5 (fK 3)] x.ab) (Mb (fK 4) (Mc [] x.ab))=true from H];show 183 (ahR apw ?_);have ahU:∀{Q:137 dA} {s},Q (fK 4) s->25 (Cj true (190 165 0) x.ab (fK 1) (fK 4)):=by
  intro Q s h;unfold Cj;rw[hp];exact bH h
 show aZ (ahU ?_);have UN:=apw.a1 (s1.a1+1);show ue (Cg hE) (vJ hE F x _ _ _ EE Y f UN ?_);have ev:kc qb [28e2,35e2] F= 124 [5 e,v] F:=by
  have e1:cj qb 28e2 F= 7 (5 e):=by rw[CB];unfold mG;rw[jy.1];rfl
  have e2:cj qb 35e2 F= 21e8:=by rw[CB];unfold mG;rw[jy.2];rfl
  refine(cj qb 28e2 F).aF (λa F=>((cj qb 35e2 F).aF λb F=>(Internal.R.Y [] F).aF (316 (b::vs))).aF (316 (a::vs)))=_;rw[e1,qY,e2];rfl
 rw[ev];clear ev;show⟨λj h=>(nomatch h),λm2 i us R2 K2 r2=>?_⟩;(show jz (ahr r2.1) λj j yL ra rv=>?_;subst yL);clear r2;cases ra;show⟨⟨.ud,15e6,.qW H⟩,?_⟩;show oA (P UN W1 K2) λapr e2=>?_;clear W1;have UO:=e2 _ (e1 _ he);clear e1 e2 he;show aM.of (ahM (apv.bj _ _ R2.d8) UO λh3 aps ⟨t3,S⟩=>?_);clear UO;have K1':Kp J p x h0 s1.M:=by
  have a:=K0.aV (m2:=p) (h2:=s1.M) (296 apA);rwa[D.uR]at a
 have K2':Kp J (p++m2) x h0 i.M:=K1'.aV K2;have R3:aK x (J++p++m2) F {i with M:=h3}:=R2.hN (wr:=[e]) (λa r=>(apr a r).1) (λb o app=>aps b o (λq=>app (D.cZ.bn q))) i.a1;have K3:Kp J (p++m2) x h0 h3:=K2'.hN (wr:=[e]) (402 UM) (λb o app=>aps b o (λq=>app (D.cZ.bn q)));clear aps;have W3:Wr x (J++p++m2) h3 [e]:=λa r=>by
  have A:=(apr a r).1;clear apr;rw[45e1]at A⊢;exact⟨⟨A.d3,A.fr,A.fa,A.jY,λo m=>by rw[S]at m;cases m;exact M4 H H⟩,_,S⟩
 show aM.of (agc ?_);show 51e6;show 27e5;show 54e9;show 25e5;rw[show Mt [PySem.a0.kM (190 164 6) 20e5 (fK 7)] (190 58 8) (fK 9).iF x.ab=TC (190 58 8) (G (PySem.a0.kM (190 164 6) 20e5 (fK 7))) (fK 9).iF x.ab from H,Cm H];show 29e2;rw[d6 aq];have UP:∀k v,19 F.T=2e5->cj qb (.l k) F= 124 v F:=λk v hv=>by
  rw[CB];unfold mG;rw[hv];rfl
 show aZ (CD n3 k3 F x _ _ _ EE Y f R3 ?_);rw[UP 58 v jy.2];show⟨λj h=>(nomatch h),λg aqj u4 apz K4 r4=>?_⟩;show oA (P R3 W3 K4) λW4 e4=>?_;clear W3;rw[Mp aqi f,yC H];show 29e2;refine aM _ _ (do rF (.kM (190 164 6) 20e5 (fK 7)) x.ab u4;b9 iK.bA) _ _ _;show 27e5;show 23 (agE ..);show 90 (CD n2 k2 F x _ _ _ EE Y f apz ?_);rw[UP 164 _ jy.1];clear jy;show⟨λj h=>(nomatch h),λapD c u5 n apB r5=>?_⟩;cases r5;show oA (P apz W4 apB) λapy e5=>?_;clear P W4;have apC:=e5 _ (e4 _ S);clear e4 e5 S;have UQ:=apz.rv apB r4;have UR:Kp J (p++m2++g++apD) x h0 c.M:=by
  have a:=K3.aV (m2:=g) (h2:=aqj.M) (385 K4);exact a.aV (by simp only[<-D.eO];exact apB)
 have aqk:J++p++m2++g++apD=J++(p++m2++g++apD):=by simp only[D.eO]
 rw[aqk]at n apy UQ;show 44 (183 (ahN (apv.bj _ _ n.d8) (st n.d8) apC (apv.sa _) (apv.why _) λh6 w k6 hs tk m' US E apF apt=>?_));show aM.of (vH (aM.of (bX (aM.of (zJ ?_)))));have apx:e<c.M.O.an:=ai.cQ apC;clear apC;have qU:e≠w:=λq=>by rw[<-E,<-q]at apx;exact I.lN _ apx
 clear apx;have l:=(apy e (D.dQ ..)).1;clear apy;have apu:∀b o,b∉ [e]->c.M.ao b=0e4->h6.ao b=0e4:=λb o app=>US b o (λq=>app (D.cZ.bn q));clear US;have R6:=n.hN (wr:=[e]) (402 l) apu k6;have K6:=UR.hN (wr:=[e]) (402 UM) apu;show h (p++m2++g++apD) {c with M:=h6,a1:=k6} F w _ hs tk m' u4 R6 H H K6 (λa r=>?_) ?_ qU apF apt ?_
 ·rcases D.eR.mp r with H|r
  ·exact⟨⟨l.d3,l.fr,l.fa,l.jY,λo m=>by rw[apF]at m;cases m;exact M4 H H⟩,_,apF⟩
  ·rw[45e1];clear h;have apE:c.M.O.an<=w:=I.hZ E.bi;exact⟨⟨λq=>31 (n.up _ q) apE,λq=>31 (n.m8 _ q) apE,λq=>31 (n.tW _ q) apE,I.dW n.jY apE,λo m=>by rw[apt]at m;cases m;exact UL⟩,_,apt⟩
 ·exact uj UR (I.hZ E.bi)
 ·show dP ?_ UQ;exact n.MV (402 l) apu
def ahV{d:I}{C:aI}{v:V}{F:MS}{fn:Fn}{fd:jB}{B:11e1}(apv:ur C)(apu:yn 35 fn fd B)(apE:fn.ps=[164,58])(hB:M5 fd.bt B):
  JC (d+1) (5 C) [v] F (F.jn (.a8 C [(58,v)])):=by
 intro x J s u us Q EE Y R ru rs P;cases ru;(show aN (MZ rs) λh apr rv=>?_;subst apr);clear rs;have apw:=st R.d8;have KC:=apv.bj _ _ R.d8;obtain(⟨aq1,q,apC,bs,bm,a2,k0,k1,k2,k3,k5,i,hcB,hcO,hcA,hcN,pass⟩):=id KC.Z;have tT:171 s.M (pX 2e8) 46e7:=(e6.ld i).iX .oZ;have LX:171 s.M (Cb 2e8 "__call__") (G 55e9):=tT.iX (f:=λt=>pn t "__call__") (.qW PySem.tc_lookup);have LY:171 s.M (su 2e8 46e7) true:=tT.iX (f:=λt=>lL t 46e7) (.qW PySem.tc_sub);have LZ:171 s.M (Ay 2e8) (2e8::bm):=CA λA Q E W g d tk os k q=>ahO (k C _ i) q;have L0:171 s.M (Bind.madeBy 2e8) (G "Exception.__new__"):=CA λA Q E W g d tk os k q=>wpAny_madeBy_exc (k C _ i) q;have ahW:171 s.M (lL 2e8 2e8) true:=CA λA Q E W g d tk os k q=>by
  show UJ (k C _ i) ?_;have:(af.N C::bm).hU 2e8=true:=by simp
  rw[bb];exact q
 have hi:=Cd (apB:=3e0) apw (apv.L2 x.w.bV);have m:(x.A.hD (384 [h])).dY=x.A.dY:=by rw[nT]
 show Tc (jI:=35) (Q₁:=λZ s₁=>Z= 24e0/\s₁={s with M:=(331 h).b6 49e3}) ⟨_,_,_,_,i⟩ LX LY LZ H L0 (ahK KC 15e2) ?_;intro Z s₁ apD;(show oA apD λM6 apr=>?_;try clear apD;subst M6;subst apr);generalize apz:(s.M.b6 {bj:= .aB "tuple",bf:= .cH #[h]}).b6 (km C s.M.O.an)=h1;have k:∀b o,8e8=0e4->h1.ao b=0e4:=λb o e=>by rw[<-apz];exact 299 e
 have hx:h1.ao (180 1)=G 49e3:=by
  rw[<-apz];have:=ai.fF (331 h) (o:=49e3) H;rwa[ai.iM]at bb
 have hz:h1.O.an=s.M.O.an+2:=by rw[<-apz,ai.iM,ai.iM]
 have t1:171 h1 (pX 24e0) 2e8:=(e6.ld hx).iX .oZ;have aql:dR.In 36e4 h1:=apw.eH k;have nH:171 h1 (su 24e0 2e8) true:=t1.iX (f:=λt=>lL t 2e8) (ahW.eH k);show⟨nH.eS 15e2,(show 171 h1 (Cb 24e0 "__init__") (47 35)from t1.iX (f:=λt=>pn t "__init__") (hi.eH k)).eS 15e2,(bind_fn aql _ (apv.fn x.w.bV)).eS 15e2,?_⟩;have apC:=R.jw k s.a1;have B9:=Y.g7;have Ca:=Y.jb;have yM:(380 [h]).Ok d:=by
  obtain(⟨o1,o2,aqm,o4,aq2,aq3,o7,aqn,aqo,o10⟩):=Y;show⟨o1,o2,aqm,o4,?_,?_,?_,?_,?_,o10⟩
  ·refine(31e1).g7+_+_<_;rw[nT];refine x.A.g7+1+_+_<_;lia
  ·refine(31e1).jb+_+_<_;rw[nT];refine x.A.jb+1+_+_<_;lia
  ·refine(31e1).e8=_;rw[nT];exact o7
  ·refine(31e1).j5=_;rw[nT];exact aqn
  ·refine∃l,(31e1).dY=_/\_;rw[m];exact aqo
 have jy:fn.ps.fw ([V.aa 24e0,v]++fn.jp [V.aa 24e0,v].U)=[(164,5 (180 1)),(58,v)]:=by rw[apE];rfl
 have hlen:([V.aa 24e0,v]++fn.jp [V.aa 24e0,v].U).U=fn.ps.U:=by
  have:(fn.jp 2).U=0:=by
   unfold Fn.jp;rw[apE];simp
  rw[D.hM,apE];refine 2+(fn.jp 2).U=2;rw[bb]
 have aqp:=(aK.wA m).bn apC.1;show LT (d:=0) (x:=380 [h]) (as:=[5 (180 1),v]) apu hlen yM (by refine(31e1).g7+_+_+_<_;rw[nT];refine x.A.g7+1+_+_+_<_;lia) (by refine(31e1).jb+_+_+_<_;rw[nT];refine x.A.jb+1+_+_+_<_;lia) aqp (326 14e9 (dP (jc k) rv)) λab s2 hL hf nZ gJ apF Cw hz2 ok2 R2 zz=>?_;rw[jy]at R2;have LP:lr<=s.M.O.an:=R.jY;have apy:=Cw _ _ hx;have apq:s.M.ao (180 1)=L:=ai.tV 37e9;have apx:ab.cY=s.M.O.an+2:=hL.aV hz;have frE:∀a,a<ab.cY->¬fr (em (380 [h]) ab) a:=by
  intro a r apD;rcases apD with H|⟨_,n,app⟩
  ·exact I.lN _ r
  ·exact I.lt_asymm r (gJ n a app)
 have W2:Wr (em (380 [h]) ab) J s2.M [s.M.O.an+1]:=λa r=>by
  rw[45e1];show⟨⟨R.Ll apq,frE _ (by rw[apx];exact 40e6),λq=>?_,I.dW LP 37e9,λo apt=>by rw[apy]at apt;cases apt;exact M4 H H⟩,_,apy⟩;rcases(B6 (x:=380 [h]) apF).mp q with q|q
  ·rw[hf]at q;have e:s.M.O.an+2=s.M.O.an+1:=apx.bi.aV (ar.G.cF q);lia
  ·rw[L1 m]at q;exact 31 (R.tW _ q) 37e9
 have k02:∀b o,8e8=0e4->s2.M.ao b=0e4:=λb o e=>Cw b o (k b o e);show ahT (d:=0) (C:=C) (v:=v) (h0:=s.M) apv hB ok2 nZ R2 15e2 W2 apy apq (Lg k02 (by intro a UT;(show aN UT λp W zz=>?_;try clear UT);exact nomatch W)) λaC S c w t hs tk m' aqq R3 UU hr3 K3 aps hd0 qU he3 hd3 rv3=>?_;show⟨H,?_⟩;have hL2:s.M.O.an<=ab.cY:=by rw[apx];lia
 show oA (aK.B7 (s1:=s) ((aK.wA m).bn R) hL2 hf gJ apF (λa o e=>e) 11e7 R3 K3) λj apA=>?_;clear R3 K3;have j:=(aK.wA m).mp j;have apA:=(Kp.wA m).mp apA;have AW:∀a∈dU (s.M.O.an+1,[w]),o5 x (J++aC) S.M a/\∃ob,S.M.ao a=G ob:=λa r=>by
  show sN (aps a (by simpa [dU]using r)) λA ob e=>?_;clear aps;have app:4e4=L:=Bx r apq hd0;exact⟨⟨A.d3,λq=>(R.vE a q).ak λo e=>(nN (app.bi.aV e)),λq=>(R.vF a q).ak λo e=>(nN (app.bi.aV e)),A.jY,A.cp⟩,ob,e⟩
 have z:=j.vW (p:=(s.M.O.an+1,[w])) (o:= .a8 C [(58,v)]) AW (by simp[dU,qU]) (λbS=>?_)
 ·have K5:=apA.vW (p:=(s.M.O.an+1,[w])) λa r=>Bx r apq hd0;clear AW apA;have hm:aC=[]:=by
   have h1:=j.cU;clear j;have h2:=R.cU;rw[D.hM]at h1;have h3:(⟨c.O,F.T,c.bG⟩:MS).O.U=F.O.U:=by refine c.O.U=_;rw[UU]
   rw[h3]at h1;exact D.J8.mp bN
  subst hm;have e1:c.O=F.O:=UU;have e2:c.bG=F.bG:=hr3;rw[D.dZ]at z;rw[D.uR]at K5;have z:165 J [(s.M.O.an+1,[w])] ⟨F.O++[.a8 C [(58,v)]],F.T,F.bG⟩ S:=by rw[<-e1,<-e2];exact z
  show P.2 [_] S _ z K5 (.Z _ (s.M.O.an+1,[w]) ?_);rw[<-R.cU,28e5,I.jj];rfl
 ·exact⟨(by refine 1<=1000;lia),w,[],_,m',_,#[],H,he3,hd3,265 ⟨25e1,dP bS rv3⟩,H,.a4 15e2⟩
set_option backward.match.sparseCases true
section
variable{apB:iz}{A:dg}{E:af->ae->Prop}{s:ae}{C:aI}
structure vX(apB:iz)(h:ai)(C:aI):Prop where
 typ:e6 apB h (pX (.N C)) (.aB "type")
 Ce:e6 apB h (lL (.N C) (.aB "BaseException")) true
 bj:∃o cd,h.ao C=G o/\o.bf= .bj cd
 a2:∀a,a≠38->e6 apB h (lL (.N C) (.N a)) (I.bY a C)
def sB.CE(apv:sB C h):vX apB h C:=by
 obtain(⟨r,q,apC,m,bm,a2,k0,k1,k2,k3,k5,s,v,u,p,i,w,_⟩):=apv.Z;show hT (apv.aC _ _ _ _ s) λe m2 b=>?_;have a2:∀apw,e6 apB h (lL 2e8 apw) ((af.N C::bm).hU apw):=λapw=>CA λA Q E n g d tk os k q=>UJ (k C _ s) q;show⟨(e6.ld s).iX .oZ,?_,⟨_,_,s,H⟩,λa x=>?_⟩
 ·have:=a2 22e5;rwa[show(af.N C::bm).hU 22e5=true from e]at bb
 ·have:=a2 2e2;rwa[show(af.N C::bm).hU 2e2=I.bY a C from b a x]at bb
def M7(s:14e4=0e4):e6 apB h (isType 2e2) (match o.bf with| .bj _=>true|_=>false):=
 (e6.ld (vg:=G headPart) s).iX .oZ
def ahX(apt:vX apB h C):e6 apB h (M8 2e8) true:=by
 unfold M8;show gd apt.bj λo cd s hd=>?_;have z:=M7 (apB:=apB) s;rw[hd]at z;exact z.iX (f:=λb=>if b=true then lL 2e8 22e5 else 42e5) apt.Ce
def ahY{Q:0e5}(apt:vX apB s.M C)(x:37e0=G oe)(r:oe.bj= 2e8)(hd:oe.bf= 27e1)(h:Q 9e6 s):67 (M9 9e6 m):=by
 have t:e6 apB s.M (pX 9e6) 2e8:=r▸(e6.ld x).iX .oZ;have e1:e6 apB s.M (M8 9e6) false:=by
  unfold M8;have z:=M7 (apB:=apB) x;rw[hd]at z;exact z.iX (f:=λb=>if b=true then lL 9e6 22e5 else 42e5) .oZ
 have e2:e6 apB s.M (su 9e6 22e5) true:=t.iX (f:=λt=>lL t 22e5) apt.Ce;unfold M9;show cL (e1.eS λa=>?_);show 35e1 <|?_;show cL (e2.eS λa=>?_);show pb H <|?_;exact 22e3
def ahZ{Q:0e5}(apt:vX apB s.M C)(a:37e0=G oe)(x:oe.bj= 2e8)(h:Q 9e6 s):67 (UV 9e6):=by
 have t:e6 apB s.M (pX 9e6) 2e8:=x▸(e6.ld a).iX .oZ;unfold UV;show bg (t.eS (bg (apt.typ.eS ?_)));show pb aq <|?_;exact 22e3
def ah0{Q:29e1}(apt:vX apB s.M C)(x:vX apB s.M a)(b:a≠38)(n:37e0=G oe)(r:oe.bj= 2e8)(h:Q (I.bY a C) s):67 (excMatches 9e6 2e2):=by
 have t:e6 apB s.M (pX 9e6) 2e8:=r▸(e6.ld n).iX .oZ;have m:e6 apB s.M (su 2e2 26e5) false:=x.typ.iX (f:=λt=>lL t 26e5) (.qW PySem.tc_notTuple);unfold excMatches;show cL (m.eS λk=>?_);show 35e1 <|?_;show cL (bX λk=>?_);simp-fs only[D.AM,D.forIn_nil];show bg (167 ((ahX x).eS ?_));simp-fs only[al.not_true,al.zH,zI];show bX (291 (t.eS (167 (bg ((apt.a2 a b).eS ?_)))));cases p:I.bY a C<;>rw[p]at h
 ·show 35e1 <|?_;exact bX (bX 22e3)
 ·show pb H <|?_;exact bX (bX 22e3)
universe e
set_option backward.match.sparseCases false
def UW:∀{l:1e0} {i:I} {o:aps},l[i]? =0e4->mu l i o=l
 | [],_,_,e=>by simp at e
 |app::l,0,o,e=>by cases e;rfl
 |app::l,i+1,o,e=>by
  have:=UW (l:=l) (i:=i) (o:=o) e;refine app::mu l i o=_;rw[bb]
section
variable{x:Fx}{J:aW}{F:MS}{s:ae}{Q:ey->ae->Prop}{EE:af->ae->Prop}{A:dg}
def Na{i:I}{p:9e3}{C:aI}{d:0e1}{fr:ar aI}(R:0e9)(u:J[i]? =5e1)(w:22e1 =G (.a8 C d))
  (h:∀h',229 F 35e9->32e3->157 ()):aY 3e0 A (sp 7e2 fr) Q EE s:=by
 obtain(⟨l,m,aD,es,n,vs,sl,r,g1,g2,g3,g,j⟩):=42 i w u;unfold sp;rcases j with⟨hr,h1⟩|⟨tb,P,apq,hr,h1,h2,h3,a,v⟩
 ·show cL (hF g1 H h1 λz=>?_);show 35e1 <|?_;exact bX (h s.M R (Kp.b8 ..))
 ·show cL (hF g1 H h1 λz=>?_);show pb (show(af.N tb !=af.L)=true from by simp) <|?_;show u3 h2 a (by exact I.LL v) ?_;generalize(fr.ak af.L λf=>iC f)=app;have c:p.1≠tb:=λq=>by
   rw[q]at g1;rw[g1]at h2;cases h2;cases h3
  have t:m≠tb:=λq=>by
   rw[q]at g2;rw[g2]at h2;cases h2;cases a
  have o:tb∈24e3:=by unfold dU;rw[r,hr];simp
  have b:166 tb (374 (·.pW 3 app)):=ai.fy.eM ..;have apA:=R.m9 (o':= .a8 C d) u o b (λq e=>by rw[h2]at e;cases e;unfold iu;rw[h3,a];rfl) (h':=374 (·.pW 3 app)) (λk=>⟨l,m,aD,es,n,vs,sl,r,(b.2 _ c).aV g1,(b.2 _ t).aV g2,xX k g3,g,.aE ?_⟩) s.a1
  ·have e:F.cN i (.a8 C d)=F:=by unfold MS.cN;rw[UW w]
   rw[e]at apA;exact h _ apA.1 apA.2
  ·obtain(⟨oc,S,dt,W⟩):=P;simp only at h3 a;subst h3 a;exact⟨tb,_,_,hr,h1,258 h2 H,H,H,by simpa using v⟩
universe e
def vY:Prop:=∀C,xB C=true->ur C
section
variable{d:I}{sc:cD}{F:MS}
def ah1(hX:vY)(h:43 E ra):JS d sc (.Bn (G E) L aU) F (ra.aF λv bR=>gO v 140 λi=>gB (I.g4 F.O.U i) 150 (gN (bR.dM i) 150 λo=>A4 o i bR)):=by
 intro x J s Q EE Y l hz S R P;show 23 (arm_exec_Raise ..);show iJ (eL λk=>?_);refine aM _ _ (do
  let xv<-(do let v<-27e9;kw aU;b9 v)
  let cv<-(b9 L:b5 12e4)
  let e<-gq cv.f3 (M9 xv "exceptions must derive from BaseException")
  if let G cv:=cv then
   let c<-if cv== .L then b9 .L else gq [e] (M9 cv "exception causes must derive from BaseException")
   SU e 3 c
   SU e 4 (22e6)
  let e<-if<-isType xv then gq [e] (raisedFor xv e)else UV e
  sp e L
  J0 e) _ _ _
 show iJ (aZ (h x J s _ EE Y l R (P.yE λv aS w s1 u1 b t r1 a=>44 (bH λk=>?_))));show iJ (bH λk=>?_);show Lc r1 a λi p r a=>fU a λapp a=>eD a λo m a=>?_;cases o with
 |a8 C dd=>
  show fU a λj a=>?_;have apv:=(hX C j).bj _ _ b.d8;have apt:=apv.CE (apB:=3e0);have q:=I.cz app;rw[<-R.cU]at q;obtain(⟨_,apA,aD,es,n,vs,sl,apq,g1,_⟩):=b.O i _ p m r;show iJ (348 (ahY apt g1 H H λk=>?_));have g:=M7 (apB:=3e0) g1;show 164 (g.eS ?_);rw[d6 (by exact al.lK)];show 164 (ahZ apt g1 H ?_);show 164 (Na b r m λh' f u=>?_);unfold J0;show 164 (PW ?_);rw[Y.e8];show 181 (XV ?_);have z:69 w h':=by have:=t.aV u;rwa[D.dZ]at bb
  exact a.2 w _ _ ⟨q,C,dd,m⟩ f.nl z (.Z i p r)
 |_=>exact a.ak
universe e
section
variable{x:Fx}{J:aW}{F:MS}{s:ae}{Q:af->ae->Prop}{EE:af->ae->Prop}{A:dg}
def ah2{i:I}{p:9e3}{C:aI}{d:0e1}{z:am}{e:al}(apv:ur C)(R:0e9)(E:J[i]? =5e1)(P:22e1 =G (.a8 C d))(w:lk d 58=G 7e8)
  (h:∀u t,17 7e8 u->Q u 55e1):aY 3e0 A (Cf 7e2 20e5 e) Q EE s:=by
 obtain(⟨apF,apz,aD,es,n,vs,sl,apu,g1,g2,g3,apx,apD⟩):=42 i P E;clear apD;have apw:=st R.d8;have apy:L5 s.M p.1 _ C (G (hI es n)):=⟨g1,H,H,g2⟩;clear g2 g1;show aN (apv.cd x.w.bV) λcd q l=>?_;have app:=L3 (m:=n) (n:=58) g3;clear g3;rw[w]at app;(show aN app λu k b=>?_;try clear app);have r:Tn 36e4 C (G (hI es n)) 20e5=G (.vK u):=by
  unfold Tn;rw[q,ar.yg,apv.why,ar.yg];refine(W.L6 cd (G (hI es n)) 20e5).cr _=_;unfold W.L6;rw[l,eX H];dsimp only;rw[k];rfl
 clear k;have apr:handedIn u=true:=by cases b;rfl
 obtain(⟨v,g,apq,t,os⟩):=s;have a:=apy.aB (apB:=3e0);have S:=looks_find (apB:=3e0) apw apy r;clear r;have c:=Cd (apB:=3e0) apw (apv.ga x.w.bV);have apA:=Cd (apB:=3e0) apw (apv.gx x.w.bV);have FB:=PySem.apu.attr_Exception;have o:(55e4 ==57e3)=false:=by decide+cn
 have j:(UX (af.N C)&&55e4 ==57e3)=false:=by rw[o];rfl
 have B:(e&&UX 55e4)=false:=by cases e<;>rfl
 have apE:171 v (su 7e2 22e5) true:=a.iX (f:=λt=>lL t 22e5) ((apv.bj _ _ R.d8).CE (apB:=3e0)).Ce;unfold Cf getAttrBy;show bg (Tp (nA (bg (a.at (bg (c.at ?_))))));dsimp only;rw[j,d6 aq];unfold getAttrByItsOwn hookBefore;rw[eX (show UX (af.N C)=true from H)];show bg (apA.at ?_);show bg (tl (nA ?_));unfold callGetattribute;rw[B,d6 aq];unfold boundAndCalled;rw[FB.ga.cr];show bg 20e3;show JP (UI FB.ga.ti PySem.apu.entry_bexc_ga (@Td 3e0 _ _ ⟨v,g,apq,t+1,os⟩ "BaseException.__getattribute__" "BaseException" "__getattribute__" 7e2 [.ag 20e5 t] [] _ 10e1 10e1 apE (PySem.apu.args_bexc_ga _ _) ?_));unfold Builtin.«object.__getattribute__»;show bg (291 (291 (a.at (bg (S.at ?_)))));show 20e3;refine aY _ _ (handedOut u) _ _ _;rw[handedOut_of apr];exact bX (h u (t+1) b)
universe e
section
variable{x:Fx}{J:aW}{F:MS}{s:ae}{A:dg}{E:af->ae->Prop}{d:I}
def UY{m':am->12e4}(R:0e9)(h:h'.Ns x.ab.cY m')(hs:166 x.ab.cY h')(hm:f8 J J s.M h'->∀k v,41e7=12e3->19e1=2e5->∃u,m' 5e5=G u/\RV J h' v u)
  (r:∀k v,(41e7=18e8\/41e7=23e5)->19e1=2e5->19 F.T=2e5) (t:I):241 (219 T) t/\32e3:=by
 show R.Mj (T:=T) (h':=h') 2e6 hs (λp=>by(show uD h λo es ep e d p=>?_;try clear h);exact⟨o,es,ep,e,d⟩) (by(show om h λo es ep e p=>?_;try clear h);exact⟨o,e⟩)
  (λz n c r=>by
   show gd (R.hj z n c r) λw o e d=>?_
   exact⟨w,o,(hs.2 c (λq=>by subst q;exact R.b3.2.2 n r)).aV e,d⟩)
  (λbS=>⟨⟨_,h,λk v a b=>hm bS k v a b⟩,λk v a b=>?_⟩) t
 obtain(⟨c,i,e1,⟨o,e2,m⟩,r1,no⟩):=200 k v (r k v a b);show⟨c,i,e1,⟨o,(hs.2 c λq=>?_).aV e2,m⟩,34e9,no⟩;clear e2 no;subst q;exact R.b3.2.2 _ (nc e1)
def ah3{Q:17e3}(Y:3e6)(R:0e9)(r:15e7)(i:41e7=12e3)
  (h:∀h' t,241 (F.fv k v) t->32e3->156 () t):aY 3e0 A (storeName x.ab 5e5 u) Q E s:=by
 obtain⟨m,l,hm⟩:=R.bq.iN;have j:(x.ab.bt.d9== .class||(x.ab.bt.d9== .TG&&x.ab.cY !=x.ab.g8))=false:=by rw[Y.fn];rfl
 show agh i l (λh' p hs=>?_) j;have apA:=UY (T:=fv F.T k v) R p hs (λbS w n a b=>?_) (λw n a b=>?_) (s.a1+1)
 ·exact h h' _ apA.1 apA.2
 ·rw[sw]at b;clear h p;split at b
  ·rename_i e;subst e;cases b;exact⟨u,eX H,30e4⟩
  ·rename_i e;show aN (hm w n a b) λo e1 r1=>?_;exact⟨o,by rw[d6 (λq=>e (r6 q))];exact e1,34e9⟩
 ·rw[sw]at b;split at b
  ·rename_i e;subst e;rw[i]at a;rcases a with a|a<;>cases a
  ·exact b
def ah4{Q:34e5}(Y:3e6)(apv:ur C)(R:0e9)(j:lk F.T n=G 15e9)(a:J[i]? =5e1)(o:22e1 =G (.a8 C dd))(k:lk dd 58=G (.ag w))
  (hk:x.ab.dB 4e6=12e3) (hd:(4e6==("__debug__" :am))=false)
  (h:∀h' t u,241 F t->32e3->RV J h' (.X [7e8,.ag w]) u->156 (.bk u) t):
  aY 3e0 A (mh [.pN (G (.kh [.rZ 7e8 c p2,.kM (.dr 4e6 p3) 20e5 p4] kk p5)) p6] x.ab) Q E s:=by
 show qh (yx ..) ?_;show 23e7;show qh (Mh ..) ?_;show cL (pr λapp=>?_);refine aY _ _ (do let v<-234 (.kh [.rZ 7e8 c p2,.kM (.dr 4e6 p3) 20e5 p4] kk p5);return iK.bk v) _ _ _;show 23e7;show qh (Sy ..) ?_;show bg (pr 23e7);refine aY _ _ (do
   let v<-234 (.rZ 7e8 c p2)
   let eS<-40e0
   return eS++(<-gq eS (do
    let v<-234 (.kM (.dr 4e6 p3) 20e5 p4)
    let eS<-40e0
    return eS++(<-gq eS (b9 []))))) _ _ _
 show 23e7;show qh (aeR ..) ?_;refine aY _ _ (mkText z) _ _ _;show Tp (bg (291 (nA 23e7)));have e:=R.a1 (s.a1+1);rw[af5,yw H];obtain⟨m,l,hm⟩:=e.bq.iN;show aN (hm n _ hk j) λu e1 f=>?_;cases f using mD.cE with
 |Z q b=>
  rw[a]at b;cases b;show bg (qR (RG Y.fn hk l e1 ?_) hd);show bg (pr (bg (nA (ah2 apv e a o k λu2 t r2=>?_))));show bg (SD 20e3);show bg (291 (nA (bX 20e3)));show 20e3;show Sz ?_ (by refine 2<=_;rw[f0];decide);show bX 20e3;have r:=e.ext (jW (307 [af.ag z s.a1,u2].gF)) (vG _) t;exact h _ t _ r.1 r.2 (.X _ _ [af.ag z s.a1,u2] ⟨_,9e9,H,_,H⟩ (by refine 2<=_;exact 24e5) (326 (.ag ..) (dP (jc (jW _)) r2)))
universe e
set_option backward.match.sparseCases true
inductive Nb (sc:cD):q0->apw×ar I×D S->Prop
 |mk {k n c kk:I} {z:am} {p1 p2 p3 p4 p5 p6 aU:dA}:hq (nm k) k=true->eu sc (nm k) .ly=true->hq (nm n) n=true->eu sc (nm n) .cV=true->
   Nb sc (.q0 (G (.dr (nm k) p1)) (G (nm n)) [.pN (G (.kh [.rZ (.ag z) c p2,.kM (.dr (nm n) p3) (nm 58) p4] kk p5)) p6] aU) (.g k,G n,[.bk (G (.X [.c (.ag z),.eY (.l n) 58]))])
abbrev FH(s:cD):D q0->D (apw×ar I×D S)->Prop:=cJ (Nb s)
section
variable{x:Fx}{J:aW}{A:dg}{d:I}{sc:cD}
def ah5{i:I}{p:9e3}{C:aI}{dd:0e1}{w:am}{Q:34e5}{EE:0e5}(hX:vY)(Y:3e6)(S:41e3)(apv:ur C)(o:J[i]? =5e1)(apq:lk dd 58=G (.ag w))
  {hs:D q0} {ls:D (apw×ar I×15e5)} (apz:FH sc hs ls) (F:MS) (s:ae) (hl:F.T=[]) (ho:22e1 =G (.a8 C dd)) (R:0e9):64 (hand C (.ag w) ls F) RF->96 (UZ 7e2 x.ab hs):=by
 induction apz with
 |aR=>exact λP=>P.ak
 |aQ h _ A=>
  intro P;obtain(⟨h1,h2,h3,h4⟩):=h;show eD P λq z P=>?_;cases ar.G.cF z;clear z;show eD P λu g P=>RQ P λa hu P=>fU P λj PP=>?_;rw[hu]at g;show oA (ba j) λn j=>?_;show oA (ba j) λj aps=>?_;have aqr:a≠38:=λe=>by rw[e]at j;exact nF j
  show hT (t5 h1) λn e2 n=>?_;show hT (t5 h3) λn e4 n=>?_;have t:=lY h4 S;have apy:=((hX a aps).bj _ _ R.d8).CE (apB:=3e0);have apt:=(apv.bj _ _ R.d8).CE (apB:=3e0);obtain(⟨_,dx,aD,es,m,vs,sl,hpp,g1,_⟩):=42 i ho o;show wpAny_handleBy_cons (codeAny_handlers_test (qR (RE Y R H (lY h2 S) g λu r=>?_) e2)) (by intro q;cases q);cases r;show ah0 apt apy aqr g1 H ?_;show kQ PP (λapp P=>?_) λapp P=>?_
  ·rw[app];show codeAny_handlers_suite_as (Na R o ho λB R1 E=>?_);have r1:RV J B 15e9 7e2:= .Z i p o;show ah3 Y R1 r1 t λh2' t2 apD W=>?_;show ah4 Y apv apD (by rw[show(F.fv _ 15e9).T=fv F.T _ 15e9 from H,sw,eX H]) o ho apq t e4 λh3' t3 aqq c apE r3=>?_;refine aY _ _ (do Ml x.ab _ .L;unbindBehindTheSuite x.ab _ _) _ _ _;obtain⟨aq4,hn,hmm⟩:=c.bq.iN;have apu:(x.ab.bt.d9== .class||(x.ab.bt.d9== .TG&&x.ab.cY !=x.ab.g8))=false:=by rw[Y.fn];rfl
   show wpAny_nameGoes t hn apu λf m' hn' apF=>?_;have apA:=UY (T:=[]) c hn' apF (λn k v n b=>nN b) (λk v n b=>nN b) (t3+1);have apx:=((E.aV (by simpa using W)).aV (by simpa using apE)).aV (by simpa using apA.2);have apr:229 F (349 f t3 1):=Eq.subst (wD:=λl=>229 (219 l) (349 f t3 1)) hl.bi apA.1;have apC:f8 J J h3' f:=by
    have:=c.eH (m2:=[]) apA.2;rwa[D.dZ]at bb
   exact P.bk apr (by simpa using apx) (.bk (dP apC r3))
  ·rw[app];exact A P
def aH.ah6{α β:Type}{x:Fx}{J:aW}{s:ae}{r:3e3}{f:I->MS->3e3}{br:17e8}{Q:12e2}{EE h:0e5}(P:11 (r.oN f))
  (apz:∀i aS aC s1 u,xZ J aS i->293 (4 aS.O aS.bG) s1->69 aC s1.M->RV (J++aC) s1.M 15e9 u->11 (f i aS)->h u s1):aH x J s r br Q h:=by
 cases r with
 |aT a F ob=>exact P
 |a8 a F ob=>exact⟨(26e9).1,λaC s' u e R apv r=>apz a F aC s' u e R apv r 26e3⟩
 |no=>exact P.ak
def ah7{ih:Ih}{B:11e1}{b:15e5}{h0:q0}{hs:D q0}{j:D (apw×ar I×15e5)}{aU:dA}{F:MS}(hX:vY)(h:PB ih d sc B b)(apz:FH sc (h0::hs) j):JS d sc (.Try B (h0::hs) [] [] aU) F
  ((ih 12e5 F).oN λi bR=>gN (bR.dM i) 141 λo=>QD o j (4 bR.O bR.bG)):=by
 intro x J s Q EE Y app hz aqs R P;show 23 (ah8 ..);show 25e5;show aN Y.dY λapy m r=>?_;(show aN (r hz) λl n c=>?_;subst n);refine aM _ _ (do
  match<-(mh B x.ab).DB with
  | .Y .bA=>mh [] x.ab
  | .Y f=>b9 f
  | .dI e=>do
   mR e x.ab
   sp e L
   UZ e x.ab (h0::hs)) _ _ _
 show aZ (wx (eW (h F x J s Q (λe s'=>259 (mR e x.ab) (λzz apA=>282 (do
   sp e L
   UZ e x.ab (h0::hs)) apA) EE s') Y app hz pU.looking R (aH.ah6 P λi aS aC s1 u apF apx apE r1 k=>?_)) (λf s' a=>?_) (λe s' E=>?_)))
 ·show aN Y.dY λapy m r=>?_;(show aN (r hz) λl n c=>?_;subst n);clear r;show Ta (x:=x) m H c apx apE apF r1 λh1 iU p tb apB o aD aps C apC apt apu V S r2 apv dJ=>?_;clear dJ m apu r1;cases r2 using mD.cE with
  |Z q a=>
   show eD k λo t k=>?_;cases o with
   |a8 C dd=>
    show eD k λv g z=>aem z λw e P3=>fU P3 λgJ apD=>?_;clear z;subst e;show 164 (Na (A:=x.A) V a t λh2 apr W=>?_);have apq:69 iU h2:=by have:=S.aV W;rwa[D.dZ]at bb
    exact aM.of (ah5 hX Y app (hX C gJ) a g apz (4 aS.O aS.bG) {s1 with M:=h2} H t apr (apD.qM (s1:={s1 with M:=h2}) apq))
   |_=>exact k.ak
 ·cases f with
  |next=>exact aM.of (zJ a)
  |_=>exact bH a
 ·exact eP E
def aH.ah9{α β:Type}{x:Fx}{J:aW}{s:ae}{r:3e3}{br:17e8}{Q:12e2}{EE h:0e5}(P:27e7)(e:∀i F ob,r≠ .a8 i F ob):aH x J s r br Q h:=by
 cases r with
 |aT a F ob=>exact P
 |a8 i F ob=>exact bM H (e i F ob)
 |no=>exact P.ak
def aia{ih:Ih}{B apu:11e1}{m:cm}{b f:15e5}{aU:dA}{F:MS}(h:PB ih d sc B b)(t:PB ih d sc (m::apu) f):JS d sc (.Try B [] [] (m::apu) aU) F
  (A5 ih (.xf b f) F):=by
 intro x J s Q EE Y l hz o R P;show 23 (ah8 ..);show 25e5;have w:=h F x J s;unfold A5 at P;dsimp only at P;generalize ih (.ss b) F=rb at P w;have P:64 (rb.aF λr F=>(ih (.ss f) F).aF λq F=>gX q 142 (7 r)) RF/\∀i F ob,rb≠ .a8 i F ob:=by
  cases rb with
  |aT a F ob=>exact⟨P,λk k k e=>nomatch e⟩
  |a8 i F ob=>exact P.ak
  |no=>exact P.ak
 show oA P λP S=>?_;refine aM _ _ (do
  match<-(do
   match<-(mh B x.ab).DB with
   | .Y .bA=>mh [] x.ab
   | .Y f=>b9 f
   | .dI e=>do
    mR e x.ab
    throw e:b5 iK).DB with
  | .Y g=>do
   let bS:=match g with| .bk v=>[v]|_=>[]
   match<-gq bS (zA (.DF (m::apu) x.ab) x.ab)with
   | .bA=>b9 g
   |p=>do pe "try.finally-overrides-flow";b9 p
  | .dI e=>do
   mR e x.ab
   sp e L
   match<-gq [e] (zA (.DF (m::apu) x.ab) x.ab (G e))with
   | .bA=>passOn "try.finally" e x.ab
   |p=>do pe "try.finally-swallows-exception";sp e L;b9 p) _ _ _
 show aZ (wx (aZ (wx (eW (w (λg s'=>aM 3e0 x.A (do
   let bS:=match g with| .bk v=>[v]|_=>[]
   match<-gq bS (zA (.DF (m::apu) x.ab) x.ab)with
   | .bA=>b9 g
   |p=>do pe "try.finally-overrides-flow";b9 p) Q EE s') (λk k=>fR) Y l hz pU.never R (aH.ah9 (P.aF λr aS apq s1 u1 u apA r1 j=>?_) S)) (λg s' n=>?_) λk k h=>h.ak))))
 ·show 90 56e1;clear w;rw[wy];show OE (eW (t aS x _ s1 (λf s'=>282 (match f with
   | .bA=>b9 u1
   |p=>do pe "try.finally-overrides-flow";b9 p) s') EE Y l hz o u (j.aF λq du m2 V u2 z app r2 c=>?_)) (λf s' n=>n) o)
  clear j;cases r2 with
  |next=>
   show bH (c.fJ z ?_);cases r1 with
   |next=>exact .bA
   |bk r=>exact .bk (u.rv app r)
  |bk r=>exact c.ak
 ·cases g with
  |next=>exact aM.of (zJ n)
  |_=>exact bH n
universe e
def aib(hd:o.bf= .bw es n):uh o:=by
 show⟨λs s e=>?_,λs s e=>?_,λs e=>?_,?_⟩
 ·rw[hd]at e;cases e
 ·rw[hd]at e;cases e
 ·rw[hd]at e;cases e
 ·exact tL hd
abbrev U0(J:aW)(h:ai):5e6->D (af×af)->Prop:=cJ λp q=>RV J h p.1 q.1/\RV J h p.2 q.2
def U1{w:eA}{apv:Type}[qO apv]{gY:x5 pw w apv}{f:38e8}{J:aW}{h:ai}{c:V->al}(s:∀{k u},145 k->c k=true->∃a,f a k/\gY.is a u=true){l us}(apz:U0 J h l us):343 (c p.1)=true->∃bL,Carries gY us bL/\RK f J h l bL:=by
 induction apz with
 |aR=>exact λb=>⟨[],d2,.aR⟩
 |aQ a _ x=>
  intro e;show aN (x (ba e).2) λbL h1 h2=>?_;show aN (s a.1 (ba e).1) λk e1 e2=>?_;exact⟨(k,_)::bL,⟨e2,H,h1⟩,.aQ ⟨e1,a.2⟩ h2⟩
def aic(r:145 k)(c:nH k=true):∃a,tJ a k/\(oD pw w).is a u=true:=by
 cases r with
 |y i=>exact⟨i,25e1,eE H⟩
 |_=>exact nF c
def aid(r:145 k)(c:rM k=true):∃a,tK a k/\(tM pw w).is a u=true:=by
 cases r with
 |ag i=>exact⟨i,H,eE H⟩
 |_=>exact nF c
inductive FD (ih:Ih) (d:I) (sc:cD):D (ar PySem.a0)->D PySem.a0->D (apw×apw)->Prop
 |aR:FD ih d sc [] [] []
 |aQ {apv V k v Ks Vs l}:PX ih d sc apv k->PX ih d sc V v->FD ih d sc Ks Vs l->FD ih d sc (G apv::Ks) (V::Vs) ((k,v)::l)
def yN(aU:dA)(ab:ez):D 41e9->10e4->D (b5 af×b5 af)
 |G apv::s,V::h=>(77 apv,(do let x<-77 V;kw aU;b9 x))::yN aU ab s h
 |_,_=>[]
def aie:∀{s e l},FD ih d sc s e l->(evalEachOpt s ab).fw ((qS e ab).aj λv=>do let x<-v;kw aU;b9 x)=(yN aU ab s e).aj λp=>(G p.1,p.2)
 :=by
 intro s e l apz
 induction apz with
 |aR=>rfl
 | @aQ apv V _ _ s e _ _ _ h a=>
  refine(G (77 apv),(do let x<-77 V;kw aU;b9 x))::(evalEachOpt s ab).fw ((qS e ab).aj λv=>do let x<-v;kw aU;b9 x)=_;rw[a];rfl
def pairs_len{Ks Vs l}(h:FD ih d sc Ks Vs l):(yN aU ab Ks Vs).U=l.U:=by
 induction h with
 |aR=>rfl
 |aQ _ _ _ ih=>exact bC (· +1) ih
def Kp.U2(a:Kp J [] x h h1)(b:56 J x h1 h2):56 J x h h2:=by
 have:=a.aV (m2:=aC) (h2:=h2) (296 b);rwa[D.uR]at bb
def aH.aif{α β γ δ:Type}{x:Fx}{J:aW}{s s1:ae}{r:3e3}{f:α->MS->R γ}{br:17e8}{p:199 γ δ}{Q:12e2}{b:38e3}{EE:0e5}(P:99 34e4 p b)(apv:69 [] s1.M)
  (apz:∀a aS aC h u,293 aS h->56 J x s1.M h.M->69 aC h.M->br (J++aC) h.M a u->99 (f a aS) p b->Q u h):aH x J s1 r br Q EE:=by
 cases r with
 |aT a F ob=>exact⟨(26e9).1,λaC s' u R e r=>apz a F aC s' u R e (apv.U2 e) r 26e3⟩
 |a8 a F ob=>exact⟨P.1,λaC s' u k R e r=>P.2 aC s' u k R (apv.U2 e) r⟩
 |no=>exact P.ak
section
variable{ih:Ih}{d:I}{sc:cD}
def aig:∀{b a l},FD ih d sc b a l->∀(F:MS) (x:Fx) (J:aW) (s:ae) (Q:D (af×af)->ae->Prop) (EE:0e5),3e6->x.ab.bt=sc->0e9->
  64 (AY ih l F) U0->25 (U3 (yN aU x.ab b a)):=by
 intro b a l apz;induction apz with
 |aR=>exact λF x J s Q EE Y h R P=>273 .aR
 |aQ j m hs w=>
  intro F x J s Q EE Y h R P;refine 282 (U3 ((_,_)::yN aU x.ab _ _)) _;rw[U3];show iJ (j F x J s _ EE Y h R (P.aF λk aS f s1 u1 p t r1 q c=>?_));show 90 (aZ (m aS x _ s1 _ EE Y h p (q.aF λv du m2 i u2 e n r2 o=>?_)));show 44 32e6;show iJ (dh (w du x _ i _ EE Y h e (o.aF λvs S app z g u r r3 P3 c=>?_)));exact bH (P3.fJ u (.aQ ⟨e.rv r (p.rv n r1),e.rv r r2⟩ r3))
set_option tactic.hygienic true in
theorem aih{Ks:D 41e9}{apF:10e4}{l:D (apw×apw)}{aU:dA}{F:MS}(h:FD ih d sc Ks apF l)(apq:I.jN l.U 16=true):43 (.Bi Ks apF aU) ((AY ih l F).aF λvs F=>gB (I.g4 vs.U 900&&vs.dJ (λp=>nI vs p.1)) 155 (F.jn (.bw (vs.iT 50e7 [])))):=by
 intro x J s Q EE Y nZ R P;have C:=pairs_len (aU:=aU) (ab:=x.ab) h;have apq:=I.si.mp apq;have apy:∀(s:ae),(208 50e3 (.bw #[])).ao s.M.O.an=G 52e5:=λs=>9e9;cases h with
 |aR=>
  clear apq;rw[eval_Dict_empty];show 44 (aM.of (qs ?_));have P:10 (F.jn 6e4):=by
   have P:=aH.oV P;exact P
  exact R.BR (jW _) (Lk _) P s.a1 λu=>⟨H,31e8,_,apy s,.a4 ⟨[],⟨#[],0,⟨H,H,H⟩,H,λe g=>by simp at g,.aR,D.kP⟩,.aR⟩⟩
 |aQ hk hv hs=>
  have apC:=FD.aQ hk hv hs;rw[arm_eval_Dict,aie apC,dictDisplay_pairs _ (by exact D.mJ _ _) (by rw[C];exact I.Qd apq)];show 44 27e5;unfold subDict;show iJ (aM.of (wpAny_alloc λu=>?_));have ie:=jW (h:=s.M) 52e5;have apu:=R.jw ie s.a1;have apr:=apy s;have c:s.M.ao s.M.O.an=L:=52e0;have W1:Wr x J (208 50e3 (.bw #[])) 39e8:=λa m=>by
   rw[D.cZ.mp m];exact⟨⟨R.Ll c,λq=>(R.vE _ q).ak λo e=>(nN (c.bi.aV e)),λq=>(R.vF _ q).ak λo e=>(nN (c.bi.aV e)),R.jY,λo j=>by rw[apr]at j;cases j;exact UL (es:=[]) (n:=0)⟩,_,apr⟩
  show 90 ?_;rw[eX (by rw[C];exact I.le_of_lt_succ apq)];clear C;show iJ (aig apC F x J {s with M:=208 50e3 (.bw #[])} _ EE Y nZ apu.1 (P.aif apu.2 λvs aS aC r us apE MX K2 r2 S u=>?_));show oA (W1.kj apu.1 H MX) λW2 k2=>?_;have U4:=k2 _ (D.dQ ..) _ apr;show fU S λapA S=>?_
  ·show oA (al.mB.mp apA) λW apx=>?_;have W:=I.cz W;have hlen:=r2.cU;have app:=(W2 _ (D.dQ ..)).1;have eg:∀(h':ai) (t:I),ai.fy s.M.O.an r.M h'->(∃o,47e3=0e4/\o.ym/\(∃es ep,o.bf= .bw es ep)/\(f8 (J++aC) (J++aC++[34e2]) h' h'->f8 (J++aC) (J++aC) r.M h'->
     DK x.w (J++aC++[34e2]) h' o (vs.iT 50e7 [])))->Q 9e8 {r with M:=h',a1:=t}:=by
    intro h' t hs U5;(show sO U5 λo j hx MF hr=>?_;try clear U5;obtain⟨es,ep,hd⟩:=MF);have apD:∀b q,b∉ 39e8->r.M.ao b=G q->11e8=G q:=λb q apA e=>(hs.2 b (λz=>apA (D.cZ.bn z))).aV e;have apt:∀a∈ [s.M.O.an],o5 x (J++aC) r.M a:=λa m=>by rw[D.cZ.mp m];exact app
    have R3:=apE.hN apt apD t;have B:=apE.MV apt apD;have aii:uh o:=aib hd;have apB:=R3.vW (p:=34e2) (o:= .bw (vs.iT 50e7 [])) (λa m=>xY m ⟨⟨app.d3,app.fr,app.fa,app.jY,λo' A=>ar.G.cF (j.bi.aV A)▸aii⟩,o,j⟩) (D.jd.bn ⟨nofun,.aR⟩) (λbS=>⟨H,by have:=UG vs [];simp only[D.sk]at bb;lia,o,j,hr bS B⟩);have K3:69 aC h':=K2.hN (wr:=39e8) (λa m=>by rw[D.cZ.mp m];exact c) apD;have K4:=K3.vW (s:={r with M:=h',a1:=t}) (p:=34e2) λa m=>xY m c;rw[D.eO]at apB;show S.2 (aC++[34e2]) _ _ apB K4 (.Z _ 34e2 ?_);rw[<-D.eO,<-apE.cU,28e5,I.jj];rfl
   have go:∀{apv:Type} [qO apv] {gY:x5 pw x.w apv} {f:38e8} (kE:∀{a b k k'},f a k->f b k'->mZ k k'=bK (a=b)) {bL:31e6},Carries gY us bL->RK f (J++aC) r.M vs bL->r.M.qP gY s.M.O.an []->
     (∀{J h' l} {o:aA},(∃bL,o.qL gY bL/\RK f J h' l bL)->DK x.w J h' o l)->259 (gq (us.tN λ(k,v)=>[k,v]) do
     for (k,v)in us do dictSet s.M.O.an k v) (λu s'=>Q 9e8 s') EE r:=by
    intro apv _ gY f kE bL i hr hm fV;show nA (bg (wpAny_storeAll (gY:=gY) us bL [] r _ i hm (by have e:=i.U;rw[f0,D.sk];lia) λh' hm' hs'=>20e3));show aN (ai.lX.mp hm') λo' A aps=>?_;show jz (id aps) λes ep hx hd u=>?_;exact eg h' _ hs' ⟨o',A,hx,⟨es,ep,hd⟩,λbS B=>fV ⟨_,aps,UF kE (tO bS (tO B hr)) .aR D.kP⟩⟩
   have U6:vs.dJ (λp=>nH p.1)=true->_:=λapz=>let⟨_,i,hr⟩:=U1 (w:=x.w) aic r2 apz;go BH i hr (ai.lX.bn ⟨_,U4,#[],0,⟨H,H,H⟩,H,λe g=>(nomatch g),.aR,D.kP⟩) .a4;have aij:vs.dJ (λp=>rM p.1)=true->_:=λapz=>let⟨_,i,hr⟩:=U1 (w:=x.w) aid r2 apz;go BI i hr (ai.lX.bn ⟨_,U4,#[],0,⟨H,H,H⟩,H,λe g=>(nomatch g),.aR,D.kP⟩) .aE;show aM.of (hV (Q:=λu s'=>Q 9e8 s') (E:=EE) ?_ (λu s' h=>bH (bH h)) λu u e=>e);clear eg go hlen apA;clear W;clear W;clear S;clear S r2;cases vs with
   |aR=>exact U6 H
   |aQ pk m'=>
    obtain⟨pk,aq5⟩:=pk;rw[D.td]at apx;show oA (al.mB.mp apx) λc3 u=>?_;clear apx;unfold nI at c3;cases pk<;>dsimp only at c3<;>first|cases c3|skip
    ·exact U6 c3
    ·exact aij c3
universe e
section
variable{bc:gR}{w:eA}{A:dg}{E:af->ae->Prop}{s:ae}
def aik{sC:af->b5 ey}{Q:0e5}
  (gJ:clausesOf e=g::gs) (hs:∀x,u8 g.lM ab x=b9 x) (J1:AD bt ab=b9 cl)
  (J2:bt.d9= .jJ) (J3:∀x∈bt.bq,x.2= .cV->bt.bq.bZ x.1=12e3)
  (h:108 u9 (λx q=>aY apB A (qu x) (λit i=>aY apB A J4 (λcP u=>
   aY apB A (zE bt ab.g8 cl [] ab.pv L .L (G ab)) (λjK w=>
    e7 apB A (.w9 e 0 it cP (318 bt ab)) (λr s'=>match r with
     | .Y _=>108 (sC cP) (λa b=>∃m,b.M.Ns jK.cY m/\∀h',ai.fy jK.cY b.M h'->Q .L {b with M:=h'}) E s'
     | .dI x=>fR) w) E u) E i) E q) E s):
  29 (J5 e bt ab aU J4 false u9 (G sC)):=by
 unfold J5;rw[J1,gJ];show aZ (eW h (λx q o=>eP (pr (eP (gt (hs x) (eP (nA (hV o (λit i t=>?_) 26e8))))))) 26e8);rw[eX cI];show eP (pr (147 t (λcP u l=>181 (147 l (λjK w j=>?_) 26e8)) 26e8));dsimp only;have v:∀x∈(bt.bq.oq λx=>(x.2== .cV||x.2== .dm)&&x.1 !=(".0" :am)).er,x.2= .cV->
   ez.dB (318 bt ab) x.1=12e3:=λx n p=>acr (J3 x (D.rA.mp (D.AE.mp n)).1 p)
 have app:∀x∈(bt.bq.oq λx=>(x.2== .cV||x.2== .dm)&&x.1 !=(".0" :am)).er.fh 1++(bt.bq.oq λx=>(x.2== .cV||x.2== .dm)&&x.1 !=(".0" :am)).er.fG 1,
   x.2= .cV->ez.dB (318 bt ab) x.1=12e3:=λx n p=>by
  rcases D.lI.mp n with h1|h1
  ·exact v x (D.U7 h1) p
  ·exact v x (D.U8 h1) p
 show dh (aZ (wx (dh (DC ?_ (by intro x;cases x)))));rw[wy];show zv j λr s' hr=>?_;cases r with
 |Y f=>
  show aZ (T4 (90 (eW hr (λa b k=>?_) 26e8)));show aN k λm c k=>?_;exact eP (acs (jK:=(318 bt ab)) J2 _ b m app c λh' m' a d=>bH (k h' d))
 |dI x=>exact hr.ak
universe e
section
variable{ih:Ih}{d k:I}{sc cs:cD}{m:Tg}
def ail{S w:PySem.a0}{c:10e4}{it:apw}{h:am}{l:PySem.a0}{aU b sv:dA}{t:apq}{F:MS}{rl:It->I->MS->2e9}(apC:un cs sc m)(MW:sc.bq.bZ 33e8≠12e3)(hi:PI ih d sc w it)(hs:∀ab x,u8 w ab x=b9 x)
  (ht:PA ih d sc k (.dr h b) t) (hk:146 sc h=true) (aim:(b.iF==aU.iF)=true) (ain:(cs.bq.fN λ(n,k)=>n==h&&(k== .cV||k== .dm))=false)
  (hl:∀vs j aS,oQ vs m=true->JE d (qa cs sc) (133 S l w c cs) vs 0 j aS (rl vs j aS)):
  JS d sc (.pO [.dr h b] (133 S l w c cs) sv) F (132 (yI ih m it rl F).aF (m0 (jO ih k t v F))):=by
 intro x J s Q EE Y i hz aqs R P;show 54e9;show 25e5;have aqt:Mt [.dr h b] (133 S l w c cs) sv.iF x.ab=b9 true:=by
  refine(b9 (x.ab.blockKind== .jJ&&x.ab.dB h==G .cV&&b.iF==aU.iF&&!(cs.bq.fN λ(n,k)=>n==h&&(k== .cV||k== .dm))):b5 al)=b9 true;rw[lY hk i,ain,aim];unfold ez.blockKind;rw[Y.fn];rfl
 rw[aqt];show 29e2;rw[eX H];have e1:(λv=>assignAll v (D.aj (λx=>x.snd) (vT [PySem.a0.dr h b] x.ab)))=λv=>rF (.dr h b) x.ab v:=by
  rw[yC (show qZ (.dr h b)=true from H)];rfl
 rw[arm_evalThenUse_ListComp];dsimp only;rw[e1];have apt:=ML (bt:=cs) (ab:=x.ab) λp apy apE=>Y.vz p.1 (by
  obtain⟨n,k⟩:=p
  dsimp only at apE
  subst apE
  have:=apC.eG n apy
  unfold ez.dB
  rw[i];exact bb)
 have apv:∀app∈cs.bq,app.2= .cV->cs.bq.bZ app.1=12e3:=λapp aps e=>by
  obtain⟨n,k⟩:=app;dsimp only at e;subst e;exact MO apC.nd aps
 show aZ (aZ (aik (g:=⟨l,w,c,0⟩) (gs:=[]) H (λv=>hs x.ab v) apt apC.d9 apv ?_));show Ux (Q:=λp s'=>aM 3e0 x.A (rF (.dr h b) x.ab p.1) (λf z=>∃m,z.M.Ns p.2 m/\∀h',ai.fy p.2 z.M h'->aM 3e0 x.A (b9 ():b5 ey) (λf s'=>282 (b9 .bA:b5 iK) s') EE {z with M:=h'}) EE s') apC MW hi hl Y i R ?_;generalize yI ih m it rl F=r at P⊢;cases r with
 |no=>exact P.ak
 |a8=>exact P
 |aT v bR ob=>
  have P:64 ((m0 (jO ih k t v bR)).ci ob) RF:=P;show oA 26e9 λNc P=>?_;show⟨Nc,λaC s' u V E r=>?_⟩;(show lG r λr apD ap hn=>?_;(show oE apD λm' hm=>?_;try clear apD));show ht v bR x (J++aC) s' u.1 _ EE Y i hz V r (aH.MH P E λf du m2 apF f apx apA f apB=>?_);(show om hm λo es pp apr hd=>?_;try clear hm);have W:Wr x (J++aC) s'.M [u.2]:=λa q=>by rw[53e0];exact⟨ap,o,apr⟩
  show oA (W.kj V H apA) λapu il=>?_;show⟨m',⟨o,es,pp,il _ 28e6 o apr,hd⟩,λh' C=>bH 32e6⟩;have apz:=(E.aV apA).hN (wr:=[u.2]) (λa q=>by rw[53e0];exact hn) (nf C);have B:=apx.hN (λa q=>(apu a q).1) (nf C) apF.a1;rw[D.eO]at B;exact apB.2 (aC++m2) _ _ B apz .bA
universe e
def aio(P:ay):(8e0).nv (352 1395)=G (1395,s9 P):=av
section
variable{apB:iz}{A:dg}{E:af->ae->Prop}{s:ae}{P:ay}
def aip:nM h c q->h.zD (.N c) q:=(by intro s;(show kX s λo vs t e x d r=>?_;try clear s);exact⟨c,o,vs,t,H,e,d,r⟩)
def U9(apu:253 s.M)(apq:s.M.ao lW=G (PySem.W.apw.Rm ps))(h:TriplesOk ps.f3):s.M.IsCode 1395 lW ps/\s.M.TableAt 1395 lW ps:=by
 have e:=pf apu 1395 _ (aio P);exact⟨⟨_,_,_,_,_,_,_,_,_,_,e,H,H,H,H,H,H,apq,H,h,aq⟩,⟨_,_,e,H,H,H⟩,apq⟩
universe e
section
variable{x:Fx}{J:aW}{F:MS}{s:ae}{h':ai}
def Va(P:ay):∀p∈KL P,p.1≠lW:=λp s e=>by
 have:=D.ib.mp (show(8e0).dJ (λp=>!(340 lW))=true from av) p s;rw[e,I.qJ]at bb;cases bb
def aK.aiq(R:0e9)(app:∀b o,b≠lW->8e8=0e4->11e8=0e4)(S:qK h')(k:I):241 F k/\32e3:=by
 show aN R.cW λps e0 h=>?_;have nd:∀b o,8e8=0e4->(∀vs,o.bf≠ 27e1)->11e8=0e4:=λb o e n=>app b o (λz=>by subst z;rw[e0]at e;cases e;exact n _ H) e;have P:∀b o,8e8=0e4->lr<=b->11e8=0e4:=λb o e t=>app b o (λz=>by subst z;exact bM t aq) e;have bS:f8 J J s.M h':=by
  show⟨λb aP e=>?_,λb aP e no=>?_,λb B n e no=>⟨nd b _ e (λh q=>nomatch q),no⟩,λh p e=>⟨p,e,H⟩,(by intro c q W;(show kX W λo vs t e a b r=>?_;try clear W);exact⟨o,vs,t,app c o (R.KU e a) e,a,b,r⟩)⟩
  ·show gD e λo e c n dd=>?_;exact⟨o,388 b e dd,c,n,dd⟩
  ·show gD e λo e c n dd=>?_;exact⟨⟨o,388 b e dd,c,n,dd⟩,no⟩
 show⟨⟨λq g=>app _ _ (Va _ q g) (R.d8 q g),R.cU,λj o q e1 e2=>?_,R.nd,R.gy,λb i=>?_,⟨?_,λk v a b=>?_⟩,R.bI,R.hJ,R.b3,λz n c apE=>?_,λl apq e apw=>?_,R.fx,R.dD,R.os,S⟩,?_⟩
 ·exact se bS (λb i apD e=>P b apD e (R.gy b ⟨q,D.ja e2,i⟩)) (R.O j o q e1 e2)
 ·show oE (R.g5 i) λq e=>?_;exact ai.cQ (P b q e (R.gy b i))
 ·obtain(⟨m,⟨o,es,ep,e,dd,r⟩,hm⟩):=R.bq.iN;show(312 ⟨o,es,ep,388 _ e dd,dd,r⟩);show aN (hm k v a b) λu e1 r1=>?_;exact⟨u,e1,34e9⟩
 ·obtain(⟨c,u,e1,⟨o,e2,V⟩,r1,no⟩):=200 k v b;exact⟨c,u,e1,⟨o,388 c e2 V,V⟩,34e9,no⟩
 ·show gd (R.hj z n c apE) λw o e d=>?_;exact⟨w,o,388 c e d,d⟩
 ·exact(R.gz l apq e apw).eH λa o e1 e2=>⟨o,P a o e2 (121 ⟨l,apq,e,apw,e1⟩).1,H⟩
 ·show⟨λb q e t h h h=>app b q (λz=>by subst z;rw[e0]at e;cases e;cases t) e,λb q e f h=>⟨q,P b q e (R.fx b f).1,H,H⟩,λb q e h n=>app b q n e,λb q e=>?_,(by intro b apA;(show aN apA λq g h=>?_;try clear apA);exact nomatch g)⟩;by_cases i:b=lW
  ·subst i;(show aN S λC A h=>?_;try clear S);exact⟨_,A⟩
  ·exact⟨q,app b q i e⟩
universe e
section
variable{apB:iz}{A:dg}{E:af->ae->Prop}{s:ae}{P:ay}
def air(m:ab.dH= .N 1395)(apu:253 s.M)(apq:qK s.M){Q:0e5}
  (hQ:∀c h' tk,(∀b o,b≠lW->8e8=0e4->11e8=0e4)->s.M.O.an<=h'.O.an->nM h' c oT->qK h'->156 (.N c) tk):
  67 (ais ab kN n gf oT xU ki (.xV vx)):=by
 (show aN apq λps e l=>?_;try clear apq;rcases l with H|⟨c,H,h⟩)
 ·show oA (U9 apu e d2) λh1 h2=>?_;show wpAny_functionCodeX m h1 h2 H λa h' tk z f i apr p apA ⟨apE,_,_,q⟩=>?_;(show oA q λv x=>?_;try clear q;(show jA v λo vs g1 g2 g3 x=>?_;try clear v));(show qg p λx o2 apy t2 e2 f1 f2 t=>?_;try clear p);cases e2;rw[g1]at f1;cases f1;rw[g3]at f2;cases f2;have h:nM h' a oT:=⟨o,vs,t2,g1,g2,g3,t⟩;exact hQ a h' tk (λb o app e=>z b o app e) (I.jx (I.x4 f i)) h ⟨_,apA.2,247 a H h⟩
 ·(show nn ((U9 apu e (by trivial)).1) λo vs file w=>?_;show nn w λV C W k=>?_;try clear w;show qg k λapF text tt op d hd R u=>?_;try clear k;show zr u λh2 apw B apx j r=>?_;try clear u;show hT r λg apD apz=>?_;try clear r);unfold ais codeAt;rw[m,d6 (413 ((af.N 1395==af.L)=true))];show bg (ait d hd ?_);rw[R];show bg (ait j g ?_);have S:codeAmong kN [iC kN.iF,iC kN.col,.N c]=47 c:=by
   refine(if(kN.iF==kN.iF&&kN.col==kN.col)=true then _ else _)=_;rw[vO,vO];rfl
  rw[show(#[iC kN.iF,iC kN.col,af.N c]:16e5).f3=[iC kN.iF,iC kN.col,.N c]from H,S];exact bX (hQ c s.M s.a1 (λx x x e=>e) 11e7 h ⟨_,e,247 c H h⟩)
def aiu{ab:ez}{c1 c2:aI}(u:ab.dH= .N 1395)(q:ab.g8=iB)(l:ab.pv= "_law_host.<locals>.")(m:317 31=G c1)(h2:317 100=G c2)
  (apu:253 s.M) (apq:qK s.M) {Q:0e5}
  (hQ:∀fa h' tk fd cc,(∀b o,b≠lW->8e8=0e4->11e8=0e4)->s.M.O.an<=fa->h'.ao fa=G (314 47e2 (.mi fd))->Bv fd c1 c2 cc->nM h' cc oT->qK h'->156 (.N fa) tk):
  67 (77 nL):=by
 rw[Rl,arm_eval_Lambda];have gJ:AD ki ab=b9 [(34e3,c2),(35e4,c1)]:=by
  rw[ML (λp h i=>?_)]
  ·have:lZ ab.b3 ki.bq []=[(34e3,(317 100).ge 0),(35e4,(317 31).ge 0)]:=av;rw[bb,m,h2];rfl
  ·have cR:∀p∈ki.bq,p.2= .eG->p.1=35e4\/p.1=34e3:=by decide+cn
   rcases cR p h i with e|e<;>rw[e]
   ·rw[m];rfl
   ·rw[h2];rfl
 have hd:defaultsOf xU ab=([],[]):=av;rw[hd];have z:ab.pv++ "<lambda>" =oT:=by rw[l];kernel_rfl
 rw[z];refine 67 (makeFunction "<lambda>" oT xU (.xV vx) ki ab [] [] [] kN kN.iF);show bg (bX (a:=af.L) (bg (qh (m':=b9 af.L) av (291 (bX (a:=L) (bg (qh gJ (291 (wpAny_newObjAsIs_type ?_)))))))));generalize v:s.M.b6 _=apz;have k:∀b o,8e8=0e4->apz.ao b=0e4:=λb o e=>v▸35e5;have hz:s.M.O.an<=apz.O.an:=by rw[<-v,ai.iM];exact 37e9
 have n:253 apz:=λp h=>k _ _ (apu p h);show cL (air (s:={s with M:=apz}) u n (jr.Y (λa o e r=>k a o e) apq) λc h' tk w app j f r=>?_);have F2:253 h':=λp h=>w _ _ (Va P p h) (n p h);have d:∀b o,b≠lW->8e8=0e4->11e8=0e4:=λb o x e=>w b o x (k b o e);have hm:h'.Ns ab.g8 (h'.jG iB):=by rw[q];exact .vB (pg F2)
 have x:h'.jG iB "__builtins__" =47 4:=by unfold ai.jG;rw[k3 F2];kernel_rfl
 show cL (wpAny_builtinsFor hm x aq (k4 F2) H H H λr=>?_);show cL (yc hm λr=>?_);show bg (bX (a:=af.L) 51e1);have t:s.M.O.an<=h'.O.an:=I.dW hz app;show hQ _ _ _ _ c (λb o x e=>104 (d b o x e)) t 9e9 ⟨H,H,H,H,H,H,q,H,H,H⟩ ?_ ?_
 ·exact jr.dH (λa o e r=>35e5) j
 ·exact jr.Y (λa o e r=>35e5) f
universe e
def Vb:∀(l:1e0) (a o:aps) (r:1e0),mu (l++a::r) l.U o=l++o::r
 | [],_,_,_=>rfl
 |b::l,a,o,r=>bC (b:: ·) (Vb l a o r)
def aiv{x:Fx}{J i d m2:aW}{F m:MS}{s s1 apu P g app:ae}{ab:ez}{fa t f cc:aI}{S:jB}{v k n:V}{C:aI}(R:0e9)(hL:ab.cY=s.M.O.an)(hf:ab.ec=31e5)(gJ:∀n c,(n,c)∈ab.b3->ab.cY<c)(hA:39e9)
  (ie:48e5) (pV:51e0) (K2:Kp J i 5e4 s1.M apu.M) (K3:Kp (J++i) d 5e4 apu.M P.M) (R3:aK 5e4 (J++i++d) m P)
  (R4:aK 5e4 (J++i++d) m g) (K4:Kp (J++i++d) [] 5e4 P.M g.M) (yO:P.M.O.an<=fa) (Vc:g.M.ao fa=G (314 47e2 (.mi S))) (apt:Bv S t f cc) (qj:nM g.M cc oT)
  (R5:aK 5e4 (J++i++d++m2) ⟨m.O++[113 [(31,v),(184,5 fa)]],m.T,m.bG⟩ app) (K5:Kp (J++i++d) m2 5e4 g.M app.M)
  (Vd:317 31=G t) (Ve:317 100=G f) (hk:lk m.T 31=G k) (hn:lk m.T 100=G n) (aqu:ab.dB 35e4=18e8) (aqv:ab.dB 34e3=18e8):
  ∃aC,293 ⟨m.O++[113 [(31,v),(184,.Z (m.O.U+1))]]++[.cW k n],F.T,m.bG⟩ app/\69 aC app.M/\∀u,RV (J++i++d++m2) app.M (.Z m.O.U) u->RV (J++aC) app.M (.Z m.O.U) u:=by
 have apv:Kp J (i++d++[]++m2) 5e4 s1.M app.M:=by
  have a:=K2.aV K3;have b:Kp (J++(i++d)) [] 5e4 P.M g.M:=by rw[<-D.eO];exact K4
  have c:Kp (J++(i++d++[])) m2 5e4 g.M app.M:=by rw[D.dZ,<-D.eO];exact K5
  exact(a.aV b).aV c
 rw[D.dZ]at apv;have R5':=R5;rw[D.eO,D.eO,<-D.eO i]at R5;show oA (R.B7 39e0 hf gJ hA ie pV R5 apv) λR6 K6=>?_;have apw:(35e4,t)∈ab.b3:=nc Vd;have apA:(34e3,f)∈ab.b3:=nc Ve;have E:fr 5e4 t:= 353 H apw;have Q:fr 5e4 f:= 353 H apA;have apC:s.M.O.an<t:=hL▸gJ _ _ apw;have s2l:s.M.O.an<f:=hL▸gJ _ _ apA;have apr:t<fa:=I.mF (R3.m8 _ E) yO;have l2:f<fa:=I.mF (R3.m8 _ Q) yO;have aiw:t≠f:=λe=>by
  subst e;exact bM (r6 (Mi R5.b3.1 apw apA)) aq
 have W:∀a∈dU (fa,[t,f]),s.M.O.an<=a:=by
  exact λa z=>tP z (I.jx (I.yq apC apr)) (I.jx apC) (I.jx s2l)
 have A:¬cy (J++i++d) fa:=λq=>31 (R3.up _ q) yO;have faF:¬fr 5e4 fa:=λq=>31 (R3.m8 _ q) yO;have faA:¬FA 5e4 fa:=λq=>31 (R3.tW _ q) yO;have apz:=K5.bS fa _ Vc H faA faF A;have faO:¬cy (J++(i++d++m2)) fa:=λq=>by
  rw[<-D.eO,<-D.eO]at q;rcases 46e3 with q|q
  ·exact A q
  ·exact 224 (K5.fk _ q) Vc
 have cd5:nM app.M cc oT:=(R4.eH K5).cod _ _ qj;obtain(⟨aq6,u1,e1,apq,r1,_⟩):=R5.bq.eU 31 k (.a4 aqu) hk;obtain(⟨aq7,u2,e2,i2,r2,_⟩):=R5.bq.eU 100 n (.a4 aqv) hn;rw[show(5e4).ab.b3.bZ 35e4=G t from Vd]at e1;rw[show(5e4).ab.b3.bZ 34e3=G f from Ve]at e2;cases e1;cases e2;have aix:¬cy (J++(i++d++m2)) t:=R5.bI _ E;have aiy:¬cy (J++(i++d++m2)) f:=R5.bI _ Q;have apF:=R6.UK (p:=(fa,[t,f])) (o:= .cW k n) (λa z=>?_) (λa z=>?_) (λj w c a b e h=>?_) ?_ (λbS=>⟨S,t,f,u1,u2,H,apz,⟨cc,apt,cd5⟩,apq,i2,34e9,dP bS r2⟩)
 ·have K7:=K6.vW (p:=(fa,[t,f])) λa z=>ai.tV (W a z);have aps:(J++(i++d++m2)).U=m.O.U+1:=by rw[R5.cU];simp
  have apD:m.O.U<(J++(i++d++m2)).U:=by rw[aps];exact 40e6
  show oE (⟨_,D.ic apD⟩:∃pi,(J++(i++d++m2))[m.O.U]? =G pi) λpi hpi=>?_;have apE:(J++(i++d++m2)++[(fa,[t,f])])[m.O.U]? =G pi:=by rw[D.kO apD];exact hpi
  have aqw:(J++(i++d++m2)++[(fa,[t,f])])[m.O.U+1]? =G (fa,[t,f]):=by
   rw[<-aps,28e5,I.jj];rfl
  have ho:(m.O++[113 [(31,v),(184,5 fa)]]++[.cW k n])[m.O.U]? =G (113 [(31,v),(184,5 fa)]):=by
   rw[D.kO (by simp),28e5,I.jj];rfl
  obtain(⟨_,dx,es,aqx,sl,aqy,z2,aqz,aqA⟩):=apF.O _ _ pi ho apE;have apB:=(apF.m9 (h':=app.M) (o':= 113 [(31,v),(184,.Z (m.O.U+1))]) apE (D.dQ ..) ⟨H,λzz zz=>rfl⟩ (λq e=>by rw[z2]at e;cases e;rfl) (λbS=>⟨by refine 2<=1000;decide,dx,es,aqx,sl,aqy,z2,aqz,?_⟩) app.a1).1
  ·show⟨i++d++m2++[(fa,[t,f])],?_,K7,λu r=>?_⟩
   ·rw[<-D.eO];have e:(⟨m.O++[.bv C [(31,v),(184,.aa (.N fa))]]++[.cW k n],F.T,m.bG⟩:MS).cN m.O.U (113 [(31,v),(184,.Z (m.O.U+1))])=⟨m.O++[113 [(31,v),(184,.Z (m.O.U+1))]]++[.cW k n],F.T,m.bG⟩:=by
     refine(⟨mu (m.O++[.bv C [(31,v),(184,.aa (.N fa))]]++[.cW k n]) m.O.U _,F.T,m.bG⟩:MS)=_;rw[D.eO,D.eO];exact bC (λl=>(⟨l,F.T,m.bG⟩:MS)) (Vb _ _ _ _)
    rw[e]at apB;exact apB
   ·cases r using mD.cE with
    |Z p hp=>
     show .Z _ p ?_;rw[<-D.eO,D.kO apD,<-D.eO,<-D.eO];exact hp
  ·cases aqA with
   |aQ g1 g3=>
    cases g3 with
    |aQ apx aqB=>
     show .aQ g1 (.aQ ⟨apx.1,?_⟩ aqB);have apy:=apx.2;generalize hv:iO.oS _=w at apy⊢;cases apy;exact .Z _ _ aqw
 ·have:=W a z;show⟨?_,λq=>31 (R.m8 _ q) bb,λq=>31 (R.tW _ q) bb,I.dW R.jY bb⟩;exact tP z faO aix aiy
 ·show tP z ⟨_,apz,nofun,nofun⟩ ?_ ?_
  ·(show aN apq λo e dd=>?_;try clear apq);exact⟨o,e,dd▸nofun,dd▸nofun⟩
  ·(show aN i2 λo e dd=>?_;try clear i2);exact⟨o,e,dd▸nofun,dd▸nofun⟩
 ·obtain(⟨c',_,B,⟨o,aqC,_⟩,_⟩):=200 j w b;rw[e]at B;cases B;exact 31 (ai.cQ aqC) (W c h)
 ·simp only[dU,D.jd,D.eR,D.mn,mo,Qb,aft,D.kP,te];exact⟨⟨I.vb apr,I.vb l2⟩,aiw⟩
noncomputable def lq(a b:I):dA:=⟨929,a,929,b⟩
noncomputable def yP:PySem.a0:= .qH (.jR (256 102 20 30) [] [] (lq 20 32)) (256 31 33 37) (lq 20 38)
noncomputable def hX:apw:= .a2 (168 102 []) (.eU 31)
section
variable{ih:Ih}{d:I}
def aiz{fd:jB}{k n:V}{F:MS}(apv:yn 1396 vc fd [.pN (G (.jR (256 101 11 19) [yP,nL] [] (lq 11 96))) (lq 4 96)])
  (wB:fd.dH= .N 1395) (hqu:fd.pc= "_law_host") (hE:kR ih d fd.bt yP hX) (h1:hq (nm 101) 101=true) (h2:eu fd.bt (nm 101) .ly=true) (hlk:lk gl 101=G (5 789)) (aiA:kT F (5 789))
  (c1:eu fd.bt 35e4 .dm=true) (c2:eu fd.bt 34e3 .dm=true)
  (hC:∀v u bR,JC d (5 789) [v,29e8] bR (.Y (.Z bR.O.U) ⟨bR.O++[175 (31,v) (184,29e8)],bR.T,bR.bG⟩)):
  JC (d+1) (5 1396) [k,n] F (Kq ih hX 789 [k,n] F):=by
 intro x J s u us Q EE Y R apw rs P;cases apw;have B9:=Y.g7;have Ca:=Y.jb;show LT (d:=d) apv av Y bN bN R rs λab s1 hL apr p gJ A apD apy b f ⟨S,apx⟩=>?_;have aps:vc.ps.fw ([k,n]++vc.jp ([k,n]:0e0).U)=[(31,k),(100,n)]:=av;rw[aps]at f;have P:10 ((h9 (cj ih hX (219 [(31,k),(100,n)]))).aF λv bR=>(h9 (ih (22 789 [v,0e6]) bR)).aF λe e=>gN (lk bR.T 31) 126 λk=>gN (lk bR.T 100) 126 λn=>Internal.R.Y (V.Z bR.O.U) ⟨bR.O++[175 (31,v) (184,.Z (bR.O.U+1))]++[.cW k n],F.T,bR.bG⟩):=P;show 51e6;show 27e5;show 23 (Mh ..);show 25e5;refine aM _ _ (do let v<-77 (.jR (256 101 11 19) [yP,nL] [] (lq 11 96));return iK.bk v) _ _ _;show 27e5;show 23 (Cu ..);show aZ (yi (d:=d) (F:=(219 [(31,k),(100,n)])) (aU:=lq 11 19) h1 h2 5e4 J s1 _ _ b p f ?_);unfold mG;rw[hlk];show⟨λe h=>(nomatch h),λaq8 o u2 app t r2=>?_⟩;cases r2;show ue (by rw[na hE.1];rfl) ?_;rw[na hE.1];refine aM (bd 5e4) (5e4).A (do
   let v<-77 yP
   let eS<-40e0
   return eS++(<-gq eS (nb (144 (lq 11 96) [nL] ab)))) _ _ o
 show aZ (hE.2 (219 [(31,k),(100,n)]) 5e4 _ o _ _ b p app ?_);generalize cj ih hX ⟨F.O,[(31,k),(100,n)],F.bG⟩=r at P⊢;cases r with
 |no=>exact P.ak
 |a8=>exact P.ak
 |aT v bR ob=>
  show oA (aH.ci (r:=(h9 (ih (22 789 [v,0e6]) bR)).aF λe e=>_) P) λapC P=>?_;show⟨apC,λm1 l u1 m g r3=>?_⟩;generalize ih (.aX (.aa (.N 789)) [v,.aa .L]) bR=r2 at P;cases r2 with
  |no=>exact P.ak
  |a8=>exact P.ak
  |aT a du mm=>
   show oA (aH.ci (r:=gN (lk bR.T 31) 126 λk=>gN (lk bR.T 100) 126 λn=>Internal.R.Y (V.Z bR.O.U) ⟨bR.O++[175 (31,v) (184,.Z (bR.O.U+1))]++[.cW k n],F.T,bR.bG⟩) P) λe P=>?_;show eD P λk' hk' P=>eD P λn' apF P=>?_;have P:=P.2;show oE (ar.mT.mp (b.vz 35e4 (.a4 (lY c1 (x:=5e4) p)))) λaq9 j=>?_;show oE (ar.mT.mp (b.vz 34e3 (.a4 (lY c2 (x:=5e4) p)))) λara i=>?_;show 357 ?_;rw[na (show vI nL=true from by rw[Rl];rfl)];refine aM (bd 5e4) (5e4).A (do
    let v<-77 nL
    let eS<-40e0
    return eS++(<-gq eS (nb (144 (lq 11 96) [] ab)))) _ _ l
   show iJ (aM.of (aiu (S.aV wB) b.vy (by rw[apx,hqu];kernel_rfl) j i m.d8 m.cW λfa h' tk fd' cc apA apz W apt z apq e=>?_));show oA (m.aiq apA apq tk) λw q=>?_;show 357 (bH 32e6);have E:yu (bd 5e4) h' (.N 789):=yv w 14e9 aiA;show bH ⟨E,?_⟩;show hC v (.N fa) bR 5e4 _ {l with M:=h',a1:=tk} _ [u1,.N fa] _ _ b w 14e9 (326 (dP (by have:=m.eH q;rwa[D.dZ]at bb) r3) 14e9) ⟨λe h=>(nomatch h),λm2 C c apE apB r5=>?_⟩;show bH 32e6;show dV (aiv R hL apr gJ A apD apy t g m w q apz W apt z apE apB j i hk' apF (lY c1 (x:=5e4) p) (lY c2 (x:=5e4) p)) λaC apu B hr=>?_;exact P aC C c apu B (hr c r5)
universe e
set_option backward.match.sparseCases false
section
variable{bc:gR}{w:eA}{A:dg}{R:md->ae->Prop}{s:ae}
def aiB
  (h:aM 6e2 (A.hW ab) (77 e) (λv s'=>332 v s')
   (λb s'=>272 w (A.hW ab) (rj ab b) (λa x=>R (.dI b) x) (λr x=>R (.dI r) x) s') s):
  95 A (.xV e ab) R s:=by
 show mf H ?_;refine aM _ (A.hW ab) (do wz;bk (<-(77 e).qi (rj ab))) _ _ s;exact 164 (OG (aZ (ww (eW h (λv s' h'=>bH h') λa a h'=>aM.of h'))))
def aiC(u:A.g7<DG)
  (ho:4e4=0e4)
  (DH:o.bf= .mi fd) (wB:fd.bt.zB=false) (DI:fd.bt.zC=false) (DJ:fd.cX= .xV cX) (qj:s.M.zD fd.dH fd.pc)
  (h:aY (bh bc w) A.fg (DL fd pm) (λr p=>
   aY (6e2) A.fg (zE fd.bt fd.g8 fd.rk r (fd.pc++ ".<locals>.") 11e3 fd.dH L fd.jC)
    (λab b=>b.M.OI/\95 A (.xV cX ab) R b) (14e7) p) 14e7 s):
  95 A (.aX 2e2 pm) R s:=by
 show mf H ?_;refine aM _ A.fg (sT 2e2 pm) _ _ s;simp-fs only[sT];show fe (rm ho λx=>?_);(show qg qj λc oc vs l n v j i=>?_;try clear qj);simp only[DH,XY,wB,DI,DJ,n];rw[n]at h;show eP (m:=ro (.N c) 1) (hF v j i 29e2);exact 147 h (λr p q=>147 q (λab b k=>eP (XZ k.1 u
  (bH (i3.nq H k.2)))) 54e3) 54e3
universe e
def j0(x:Fx)(ab:ez):Fx:=⟨x.w,46e9,{ab with bt:={ab.bt with bq:=[(".0",.cV)]},b3:=[]},x.os,true⟩
def aK.aiD{x:Fx}{J:aW}{F:MS}{s:ae}{c:ai}(R:0e9){m:am->12e4}{ab:ez}(hL:ab.cY=s.M.O.an)(i:c.Ns ab.cY m)(t:386 4e4 (c.ao a))
  (hf:ab.ec=31e5) (hk:ab.bt.d9= .jJ) (hA:39e9) (tk:I):aK 19e5 J (4 F.O F.bG) (84 c tk):=by
 have h:=(R.jw t tk).1;have f:lr<=s.M.O.an:=R.jY;have j:∀a,fr 19e5 a->s.M.O.an<=a:=by
  rintro a (rfl|⟨q,_⟩)
  ·exact 39e0
  ·cases q
 show⟨h.d8,h.cU,h.O,h.nd,h.gy,h.up,⟨⟨m,i,λk v a b=>(by cases b)⟩,λk v a b=>(by cases b)⟩,λa r d=>31 (R.up a d) (j a r),λa r=>I.dW f (j a r),⟨D.kP,D.kP,λn app=>(by cases app)⟩,(λq=>nG q),?_,?_,h.dD,h.os,h.cW⟩
 ·(show oE hA λl u=>?_;try clear hA);clear j;intro l' w e p;have:l'=ab::l:=by
   have:(19e5).A.dY=G (ab::l):=by refine 38e9=_;rw[u];rfl
   rw[bb]at w;cases w;rfl
  subst bb;rcases D.eR.mp p with H|p
  ·(show uD i λo es ep e1 e2 z=>?_;try clear i);exact⟨hk,_,o,hf,e1,es,ep,e2⟩
  ·exact h.gz l u e p
 ·rintro a ⟨l',w,e,p,r⟩;clear i;(show oE hA λl u=>?_;try clear hA);have:l'=ab::l:=by
   have:(19e5).A.dY=G (ab::l):=by refine 38e9=_;rw[u];rfl
   rw[bb]at w;cases w;rfl
  clear w;subst bb;rcases D.eR.mp p with H|p
  ·rw[hf]at r;cases r;rw[hL];clear hL;exact⟨f,λd=>292 (R.up _ d)⟩
  ·exact 121 ⟨l,u,e,p,r⟩
def Nd(k:39e9):FA 19e5 a ↔ (ab.ec=11e3\/FA x a):=by
 (show oE k λl p=>?_;try clear k);have e:(19e5).A.dY=G (ab::l):=by refine 38e9=_;rw[p];rfl
 constructor
 ·rintro⟨l',s,v,b,r⟩;rw[e]at s;cases s;rcases D.eR.mp b with H|b
  ·exact .a4 r
  ·exact .aE ⟨l,p,v,b,r⟩
 ·rintro(h|⟨l',s,v,b,r⟩)
  ·exact⟨_,e,ab,D.dQ ..,h⟩
  ·rw[p]at s;cases s;clear s;exact⟨_,e,v,54 b,r⟩
def aK.aiE{x:Fx}{J aC:aW}{F P:MS}{s s1 s':ae}(R:0e9){ab:ez}(hL:341 ab.cY)(W:ab.ec=31e5)(d:39e9)
  (ie:48e5) (pV:51e0)
  (R':aK 19e5 (J++aC) P s') (K':56 J 19e5 s1.M s'.M):206 ⟨P.O,F.T,P.bG⟩/\38e6:=by
 have i:∀a,a<s.M.O.an->¬fr 19e5 a:=by
  rintro a p (rfl|⟨q,_⟩)
  ·exact 31 p hL
  ·cases q
 have app:∀a,a<s.M.O.an->¬FA x a->¬FA 19e5 a:=by
  intro a p h q;rcases(Nd d).mp q with e|q
  ·rw[W]at e;cases e;exact 31 p hL
  ·exact h q
 have apv:38e6:=by
  show⟨λa o e t f g apw=>K'.bS a o (ie a o e) t (app a 9e1 f) (i a 9e1) apw,λa o e f g=>K'.js a o (ie a o e) ((Nd d).bn (.aE f)) (i a 9e1),λa o e t n=>K'.iV a o (ie a _ e) t n,λa o e=>K'.g5 a o (ie a o e),λa p=>?_⟩;cases apD:s.M.ao a with
  |L=>rfl
  |G o=>exact 224 (K'.fk a p) (ie a o apD)
 have bS:=R.eH apv;have j:∀a o,¬14e2->4e4=0e4->¬68 (J++aC):=λa o h1 h2 h3=>(jt.mp h3).ak h1 λh=>nN ((323 h) h2);have ec:∀a o,FA x a->4e4=0e4->∃o',s'.M.ao a=G o'/\o'.bf=o.bf:=by
  intro a o f e;show dV (K'.js a o (ie a o e) ((Nd d).bn (.aE f)) (i a 9e1)) λo' e1 g e2=>?_;exact⟨o',e1,e2⟩
 have dm:∀c u,s.M.pP c u->¬cy J c->s'.M.pP c u:=by
  rintro c u ⟨o,e,hd⟩ no;show⟨o,K'.bS c o (ie c o e) (Bs hd) (app c 9e1 55e3) (i c 9e1) no,hd⟩
 show⟨⟨R'.d8,R'.cU,R'.O,R'.nd,R'.gy,R'.up,⟨?_,λk v a b=>?_⟩,λa p=>(R.vE a p).ak λo e=>j a o (R.bI a p) e,R.hJ,R.b3,λz n c apA=>?_,λl S e apq=>?_,λa p=>⟨(121 p).1,(R.vF a p).ak λo e=>j a o (121 p).2 e⟩,R'.dD,R'.os,R'.cW⟩,apv⟩
 ·obtain(⟨m,⟨o,es,ep,e,hd,hs⟩,hm⟩):=R.bq.iN;have:∃o',s'.M.ao x.ab.cY=G o'/\o'.bf=o.bf:=by
   by_cases q:FA x x.ab.cY
   ·exact ec _ _ q e
   ·exact⟨o,K'.bS _ o (ie _ o e) (tL hd) (app _ 9e1 q) (i _ 9e1) (R.bI _ 2e6),H⟩
  (show aN bb λo' A apE=>?_;try clear bb);show(312 ⟨o',es,ep,A,apE.aV hd,hs⟩);show aN (hm k v a b) λu e1 r=>?_;exact⟨u,e1,30e4⟩
 ·obtain(⟨c,u,e1,e2,r,no⟩):=200 k v b;show aN (id e2) λo e3 g=>?_;exact⟨c,u,e1,dm c _ e2 no,30e4,j c _ no e3⟩
 ·show oE (R.hj z n c apA) λw V=>?_;exact⟨w,dm c w V (R.bI c (247 z n apA))⟩
 ·exact(R.gz l S e apq).eH λa o e1 e2=>ec a o ⟨l,S,e,apq,e1⟩ e2
def aiF{ab:ez}{apB:iz}{A:dg}{s:ae}{Q:0e5}{EE:0e5}{P:ay}{k:I}{u:af}(b:ab.bt.d9= .jJ)(n:ab.g8=iB)(x:ab.jC=mU)(apu:253 s.M)(a:33e4=G .ly)(e:19 gl=G 29e8)(h:Q u s):aY apB A (yb ab 5e5) Q EE s:=by
 show aN (RD (J:=[]) apu e) λv r z=>?_;cases r;rw[ad8 b a];unfold loadGlobal;rw[n,x];show cL (yc (.vB (pg apu)) λp=>?_);rcases z with z|⟨z,m⟩
 ·rw[z];exact 22e3
 ·rw[z];show cL (yc (.vB (Au apu)) λp=>?_);rw[m];exact 22e3
def Nf:PySem.a0:= .jR (256 118 75 79) [256 67 80 86] [] (lq 75 87)
def CF:PySem.a0:= .kh [256 31 69 73,Nf] 0 (lq 68 88)
def Vf:PySem.a0:= .jR (.kM (256 100 55 60) (nm 46) (lq 55 67)) [CF] [] (lq 55 89)
def Vg:PySem.a0:= .D [] (lq 93 95)
def aiG:vx= .pM .Or [Vf,Vg] (lq 55 95):=av
def aiH:ki.zB=false/\ki.zC=false/\ki.d9= .jJ/\(∀x∈ki.bq,x.2≠ .dm)/\ki.bq.bZ (nm 67)=12e3/\ki.bq.bZ 35e4=23e5/\ki.bq.bZ 34e3=23e5/\ki.bq.bZ (nm 118)=G .ly:=by
 show⟨av,av,av,by decide+cn,av,av,av,av⟩
def aiI{c1 c2 cc:aI}(apt:Bv fd c1 c2 cc)(u:af):DL fd (61 [u])=b9 [(nm 67,u)]:=by
 obtain(⟨gf,p,bV,cX,bt,g8,rk,zO,DV,doc,pyModule,k,dH,m,jC⟩):=fd;obtain(⟨h1,h2,h3,b,r,x,e,a,h,s⟩):=apt;dsimp-fs only at h1 h2 h3 b r x e a h s;subst h3 x h s;kernel_rfl
def list_st(F:MS)(v:V):(∃w ob,∀T,vj true "list" [v] (219 T)= 20 w F.O T F.bG ob)\/∃k,vj true "list" [v] F= .no k:=by
 have h1:∀T,lR v (219 T)=lR v F:=λT=>by cases v<;>rfl
 have h2:∀T,vh v (219 T)=vh v F:=λT=>by cases v<;>rfl
 have h3:∀T,rP v (219 T)=rP v F:=λT=>by cases v<;>rfl
 have c0:∀s:MS,vj true "list" [v] s=(match lR v s with
   |G l=>s.ka true l (rP v s)
   |L=>gN (vh v s) 50 λl=> .Y (6 l) s):=λs=>av
 have c1:∀(l:0e0) (t:al),(∃ob,∀T,MS.ka (219 T) true l t= 20 (.ad l t) F.O T F.bG ob)\/∃k,F.ka true l t= .no k:=by
  intro l t;unfold MS.ka gu;cases t with
  |true=>exact .a4 ⟨_,λT=>rfl⟩
  |false=>
   cases I.g4 l.U 16777216 with
   |true=>exact .a4 ⟨_,λT=>rfl⟩
   |false=>exact .aE 25e1
 cases q:lR v F with
 |G l=>
  rcases c1 l (rP v F)with⟨ob,h⟩|⟨k,h⟩
  ·exact .a4 ⟨.ad l (rP v F),ob,λT=>by rw[c0,h1,q,h3];exact h T⟩
  ·exact .aE ⟨k,by rw[c0,q];exact h⟩
 |L=>
  cases x:vh v F with
  |G l=>exact .a4 ⟨6 l,[],λT=>by rw[c0,h1,q,h2,x];rfl⟩
  |L=>exact .aE ⟨50,by rw[c0,q,x];rfl⟩
def aiJ{d:I}{i n:I}{k v:V}{F:MS}(hg:18e7=G (.cW k (.Z n))):JC (d+1) 15e9 [v] F (vk n k v F):=by
 intro x J s u us Q EE Y R ru rs P;cases ru using mD.cE with
 |Z p g=>
 (show aN (MZ rs) λu1 ME r1=>?_;subst ME);clear rs;obtain(⟨fd,c1,c2,w1,w2,hp2,aiK,⟨cc,apt,qj⟩,ic1,Vh,aqD,rn⟩):=42 i hg g;obtain(⟨sc1,kl,Vi,sc4,Vj,sc6,sc7,sc8⟩):=aiH;have B9:=Y.g7;have Ca:=Y.jb;obtain⟨l,apB,_⟩:=Y.dY;obtain⟨r,t0,apE⟩:∃r t0,F.dM n=G (.az r t0):=by
  cases e:F.dM n with
  |L=>unfold vk at P;rw[e]at P;exact P.ak
  |G o=>
   unfold vk at P;rw[e]at P;cases o with
   |az r t0=>exact⟨r,t0,H⟩
   |_=>exact P.ak
 unfold vk at P;rw[apE]at P;rcases list_st F v with⟨w,IS,A⟩|⟨kk,A⟩
 case aE=>rw[A]at P;exact P.ak
 have aps:=A F.T;rw[show(⟨F.O,F.T,F.bG⟩:MS)=F from H]at aps;rw[aps]at P;have P:10 ((match F.dM n with
  |G (.az l t)=>(xA n (.az l t) 46 [.X [k,w]] F).aF λE F=>Internal.R.Y (V.ad [] false) F
  |_=> .no 132).ci IS):=P
 obtain⟨aiL,P⟩:=26e9;rw[apE]at P;have P:10 (((gu (r.U+1) t0 F).aF λE F=>Internal.R.Y (V.aa .L) (F.cN n (.az (r++[.X [k,w]]) t0))).aF λE F=> 7 11e0):=P;show rh (aiC (cX:=vx) bN aiK H (by rw[apt.bt];exact sc1) (by rw[apt.bt];exact kl) apt.cX (by rw[apt.dH,apt.pv];exact aip qj) ?_);rw[aiI apt u1,apt.rk,apt.bt,apt.g8,apt.jC];show bX (ahp sc4 (λapp aqE=>by rw[D.cZ.mp aqE];exact Vj) (λh1 B hsb=>?_) Vi);have z:∀a o,4e4=0e4->h1.ao a=0e4:=λa o e=>hsb.mq a o 42e2 35e5;show⟨LI (λp g=>z _ _ (R.d8 p g)),aiB ?_⟩;generalize apq:newEnv ki s.M.O.an iB [(nm 100,c2),(nm 31,c1)] _ _ _ L mU=ab;have hL:ab.cY=s.M.O.an:=by subst apq;rfl
 have apx:ab.ec=31e5:=by subst apq;rfl
 have apy:ab.bt=ki:=by subst apq;rfl
 have apC:ab.g8=iB:=by subst apq;rfl
 have apz:ab.jC=mU:=by subst apq;rfl
 have Vk:ab.b3=[(34e3,c2),(35e4,c1)]:=by subst apq;rfl
 have S:ab.bt.d9= .jJ:=by rw[apy];exact Vi
 have apu:∀m,ab.dB m=ki.bq.bZ m:=λm=>by unfold ez.dB;rw[apy]
 clear apy;rw[<-hL]at B;have apr:=R.aiD hL B z apx S ⟨l,apB⟩ (s.a1+[(nm 67,u1)].U);have yM:(19e5).Ok d:=by
  show⟨S,apC,apz,λm h=>?_,by refine x.A.g7+1+_+_<_;lia,by refine x.A.jb+3+_+_<_;lia,Y.e8,Y.j5,⟨ab::l,by refine 38e9=_;rw[apB];rfl,λq=>nG q⟩,λE=>rfl⟩;have e:(19e5).ab.dB m=D.bZ m [(33e8,hw.cV)]:=H;rw[e,D.lB]at h;clear e;split at h<;>rcases h with h|h<;>cases h
 have lc2:317 100=G c2:=by rw[Vk,D.lB,vO]
 have lc1:317 31=G c1:=by
  rw[Vk,D.lB,show(35e4==34e3)=false from av];rw[D.lB,vO]
 rw[aiG,ae4];set_option backward.match.sparseCases true in
 refine 345 (do
   let v<-77 Vf
   kw (lq 55 95)
   let t<-gq [v] (PySem.ll v)
   match pM.Or,t with
   | .i3,false| .Or,true=>b9 v
   |_,_=>boolOp (lq 55 95) .Or (qS [Vg] ab)) _ _ _
 show 27e5;show 23 (Tz ..);rw[yw (show vP (256 100 55 60)=true from H)];show 164 (qR (RH S (411 sc7) lc2 (Vh.eH z) ?_ av) av);clear Vh;show 25e5;have Mg:Ci ([CF].U+([]:D TA).U) (144 (lq 55 89) [CF] ab) (Mb (lq 55 89) (Mc [] ab))=true:=by
  unfold Ci;rw[na H];rfl
 unfold TB;rw[Mg];obtain⟨apA,W,H⟩:∃apA,J[n]? =G apA/\w2= .N apA.1:=by cases rn using mD.cE with|Z apA W=>exact⟨apA,W,H⟩
 clear rn;show 183 (Tw (x:=19e5) apr W apE (show rR (.az r t0) 46=G "list.append" from H) ?_);show 27e5;unfold Cj;rw[show((lq 55 67).Mf==(lq 55 89).iF)=true from H];show 32e6;show ue (by rw[na H];rfl) ?_;rw[na H];refine 345 (do
   let v<-77 CF
   let eS<-40e0
   return eS++(<-gq eS (nb (144 (lq 55 89) [] ab)))) _ _ _
 show 27e5;show 23 (Sy ..);show 44 27e5;rw[na H];refine 345 (do
   let v<-77 (256 31 69 73)
   let eS<-40e0
   return eS++(<-gq eS (nb (144 (lq 68 88) [Nf] ab)))) _ _ _
 show 164 (qR (RH S (411 sc6) lc1 (ic1.eH z) ?_ av) av);show 357 ?_;rw[na H];refine 345 (do
   let v<-77 Nf
   let eS<-40e0
   return eS++(<-gq eS (nb (144 (lq 68 88) [] ab)))) _ _ _
 show 27e5;show 23 (Cu ..);show 164 (qR (aiF S apC apz apr.d8 (411 sc8) (show lk gl 118=G (.aa 19e6)from cI) ?_) av);clear apz apC;show ue (by rw[na H];rfl) ?_;rw[na H];refine 345 (do
   let v<-77 (256 67 80 86)
   let eS<-40e0
   return eS++(<-gq eS (nb (144 (lq 75 87) [] ab)))) _ _ _
 show 164 (qR (RG S (411 Vj) B (v:=u1) (by simp-fs [D.lB]) ?_) av);show 357 (bH (bH ⟨⟨.ud,15e6,.qW H⟩,?_⟩));show UE (x:=19e5) yM apr (265 (dP (jc z) r1)) ?_ (fz:=true);rw[A []];show⟨aiL,λj f apw R3 K3 r3=>?_⟩;show 357 (bH 32e6);show 32e6;show aM.of (Sz ?_ (by refine 2<=_;rw[f0];lia));show oA (R3.jw (jW (h:=f.M) (307 ([w1,apw]:2e4).gF)) f.a1) λR4 K4=>?_;show 357 (bH (bH ⟨⟨.ud,15e6,.qW H⟩,?_⟩));have Vl:f8 (J++j) (J++j) f.M (f.M.b6 (307 ([w1,apw]:2e4).gF)):=jc (jW _);have rk3:RV (J++j) f.M k w1:=dP (apr.eH K3) (dP (jc z) aqD);have aqF:RV (J++j) (f.M.b6 (307 ([w1,apw]:2e4).gF)) (.X [k,w]) (.N f.M.O.an):= .X _ _ [w1,apw] ⟨_,9e9,H,_,H⟩ (by refine 2<=_;decide) (326 (dP Vl rk3) (dP Vl r3));have aiM:(J++j)[n]? =G apA:=by rw[379 W];exact W
 have C:r.U+1<=16777216/\∀m s' u',165 J m (F.cN n (.az (r++[.X [k,w]]) t0)) s'->69 m s'.M->RV (J++m) s'.M 11e0 u'->Q u' s':=by
  unfold gu at P;cases t0 with
  |true=>exact⟨P.1 _ (.rp _),P.2⟩
  |false=>
   dsimp only at P;cases apF:I.g4 (r.U+1) 16777216 with
   |true=>rw[apF]at P;exact⟨I.cz apF,P.2⟩
   |false=>rw[apF]at P;exact P.ak
 obtain⟨C,P⟩:=C;obtain⟨ob,Nc,q1⟩:∃ob,gu (r.U+1) t0 ⟨F.O,[],F.bG⟩= .aT () ⟨F.O,[],F.bG⟩ ob/\∀p∈ob,p:=by
  unfold gu;cases t0 with
  |true=>exact⟨_,H,λp g=>by rw[D.cZ.mp g];exact C⟩
  |false=>exact⟨[],by dsimp only;rw[I.Us.bn C];rfl,λE h=>nomatch h⟩
 show aM.of (Lx (x:=19e5) R4 aiM apE aqF ?_);clear apE;rw[Nc];show⟨λp g=>q1 p (by simpa-fs using g),λm2 apD u5 R5 K5 r5=>?_⟩;cases r5;show 44 (183 (BO (x:=19e5) (F:=F) (J:=[]) (v:= 0e6) (show ll F.O 0e6=G (false,false)from H) 14e9 λkk=>?_));refine 345 (do kw (lq 93 95);SA (<-nb (144 (lq 93 95) [] ab))) _ _ _;show 44 (181 (aM.of (Ka ?_ (by refine 0<=_;exact 31e8))));show oA (R5.jw (jW (h:=apD.M) (308 ([]:2e4).gF)) kk) λR6 K6=>?_;have apv:Kp J (j++[]++m2++[]) 19e5 h1 (apD.M.b6 (308 ([]:2e4).gF)):=by
  have a:=K3.aV K4;have b:Kp (J++(j++[])) m2 19e5 (f.M.b6 (307 ([w1,apw]:2e4).gF)) apD.M:=by rw[D.dZ];exact K5
  have c:Kp (J++(j++[]++m2)) [] 19e5 apD.M (apD.M.b6 (308 ([]:2e4).gF)):=by rw[D.dZ,<-D.eO];exact K6
  exact(a.aV b).aV c
 rw[D.dZ,D.dZ]at apv;rw[D.eO]at R6;have pV:s.M.O.an<=h1.O.an:=by rw[<-hL];exact I.jx B.lt
 show oA (R.aiE (s1:=(349 h1 s.a1 [(nm 67,u1)].U)) 39e0 apx ⟨l,apB⟩ z pV R6 apv) λaqG K7=>?_;clear hL apx;show P (j++m2) _ _ aqG K7 (.ad [] false _ [] ⟨_,9e9,H,_,H⟩ (λq=>?_) 31e8 .aR);clear P;have:=R5.up _ (by rw[D.eO];exact q);exact 292 bb
section
variable{ih:Ih}{d:I}{sc:cD}
def aH.j1{γ δ:Type}{x:Fx}{J:aW}{ih:Ih}{a b:apw}{F:MS}{s:ae}{e:2e4->ae->Prop}{EE:0e5}
  {f:V->V->MS->R γ} {br:199 γ δ} {Q:38e3}
  (P:11 (132 27e8 ((86 b) λw F=>f v w F)))
  (h:∀v w du m2 k u1 u2,165 J m2 du k->69 m2 k.M->RV (J++m2) k.M v u1->RV (J++m2) k.M w u2->11 (f v w du)->e [u1,u2] k):
  99 (kc ih [a,b] F) (pS 2) e:=by
 refine 99 (132 27e8 ((kc ih [b] F).aF (316 (v::vs)))) (pS 2) e;generalize cj ih a F=r at P⊢;cases r with
 |a8 i aS ob=>exact P
 |no=>exact P.ak
 |aT v aS ob=>
  have P:11 (((cj ih b aS).aF λw F=>f v w F).ci ob):=P;show oA 26e9 λq P=>?_;refine 99 (((kc ih [b] aS).aF (316 (v::vs))).ci ob) (pS 2) e;refine 99 ((((cj ih b aS).aF (396 [v])).aF (316 (_::vs))).ci ob) (pS 2) e;generalize cj ih b aS=r2 at P⊢;cases r2 with
  |a8 i du mm=>
   refine 99 (.a8 i du (ob++mm)) (pS 2) e;exact⟨λp m=>(300 m) (q p) (P.1 p),P.2⟩
  |no=>exact P.ak
  |aT w du mm=>
   have P:11 ((f v w du).ci mm):=P;show oA 26e9 λu P=>?_;refine 99 (.aT [v,w] du (ob++(mm++([]++[])++[]))) (pS 2) e;show⟨λp m=>?_,λaC s' us R apv r=>?_⟩
   ·rw[D.dZ,D.dZ,D.dZ]at m;exact(300 m) (q p) (u p)
   ·show oA r λr j=>?_;cases r with
    |aQ r1 n=>
     cases n with
     |aQ r2 n=>
      cases n;exact h v w du aC s' _ _ R apv r1 r2 P
def aiN{A B:PySem.a0}{a b:apw}{id:am}{p aU:dA}(apz:kR ih d sc A a)(apy:kR ih d sc B b)(h1:hq id 70=true)(h2:eu sc id .ly=true):PI ih d sc (.jR (172 p) [A,B] [] aU) (168 70 [a,b]):=by
 intro F x J s Q EE Y apB R P;have P:64 (132 27e8 ((86 b) λw F=>gB (Qu v) 102 (gN (xn F.O w) 102 λapC=> 7 .aR))) (mI x s.M):=P;rw[Cu];show aZ (yi (d:=d) (F:=F) (aU:=p) h1 h2 x J s _ EE Y apB R ?_);unfold mG;rw[show lk gl 70=G (.aa 45e5)from cI];refine 99 (124 (.aa 45e5) F) RV _;show⟨λapC h=>(nomatch h),λaC s' u aps apt r=>?_⟩;cases r;have P':=P.qM apt;show ue (Cg (326 apz apy)) (vJ (326 apz apy) F x _ s' _ EE Y apB aps ?_);show aH.j1 P' λv w du m2 k u1 u2 app C r1 r2 S=>⟨⟨.ud,15e6,.qW H⟩,?_⟩;have eg:∀(t z:aI) (apx:16e5),jk k.M t #[]->k.M.gW z apx->aH x (J++aC) s' (Internal.R.Y It.aR du) (mI x s.M) Q EE->282 (aX 45e5 [.N t,.N z]) k:=by
  intro t z apx V W S;show aM.of (acS V W λh' hz hp apq hs apv=>?_);have E:=app.jw apv k.a1;have apu:=C.aV E.2;rw[D.dZ]at apu;have tlt:t<k.M.O.an:=V.lt;show S.2 m2 _ _ E.1 apu (.aR _ [k.M.O.an+4,k.M.O.an] ⟨⟨_,_,hz,H⟩,?_,?_⟩ (D.dQ ..) ?_ ?_ ?_)
  ·intro i Q3 apF f apD j;have apA:tv i.M (k.M.O.an+4) (k.M.O.an+2) (k.M.O.an+3) .L:=f _ (D.dQ ..) _ hz;have hi3:xd i.M k.M.O.an t 0:=(by(show aN apq λo e r=>?_;try clear apq);exact⟨o,f _ (54 (D.dQ ..)) o e,r⟩);have ht3:jk i.M t #[]:=apD _ _ (V.eH apv);show acP Y.e8 (I.ip (I.aiO aq)) (I.ip (I.mF tlt (I.tS _ 4))) apA (apD _ _ ⟨_,hp,H,_,H⟩) hi3 ht3 λh4 hk4=>j h4 i.a1 λb o g e=>hk4 b o (λq=>g (by simp[q])) (λq=>g (by simp[q])) e
  ·intro i Q3 apF f apD j;have apA:tv i.M (k.M.O.an+4) (k.M.O.an+2) (k.M.O.an+3) .L:=f _ (D.dQ ..) _ hz;exact aiP apA j
  ·intro a n;rcases D.eR.mp n with H|n
   ·exact app.yD (I.tS _ 4) hz H H aq
   ·rw[D.cZ.mp n];(show dV apq λo e c dd=>?_;try clear apq);exact app.yD 11e7 e dd c aq
  ·intro a n;have apr:=apt.aV C;rcases D.eR.mp n with H|n
   ·exact uj apr (I.tS _ 4)
   ·rw[D.cZ.mp n];exact uj apr 11e7
  ·intro i Q3 apF e j;exact aiP (show tv i.M _ _ _ _ from by rw[e];exact hz) j
 show fU S λapE P3=>eD P3 λl W P4=>?_;clear S;(show jz (Ln app W r2) λz aP yL g apC=>?_;subst yL);clear r2;cases r1 with
 |X m a its n hm rs=>
  clear hm;cases rs with
  |aR=>exact eg _ _ _ n g P4
  |aQ=>exact nF apE
 |_=>exact nF apE
universe e
inductive aqH where
 |x (E:PySem.a0) (e:apw)
 |t (E:PySem.a0) (e:apw)
 |s (S:cm) (s:Internal.S)
 |b (B:D cm) (b:D Internal.S)
abbrev Ck:=cD->aqH->al
def qc{α β:Type}(p:α->β->al):8e4->D β->al
 | [],m=>kf m
 |a::l,m=>ln m λb m=>p a b&&qc p l m
def Vm(c:PySem.i9)(v:V):al:=match v with
 | .aa x=>I.bY x.cf 0&&I.bY c.cf 0
 | .bp b _=>Re c λd=>d==b
 | .y i _=>Rf c λj=>274 j i
 | .ag s=>KM c λt=>t==s
 | .ch l=>Rh c λb=>274 b l&&I.g4 l.U 16777216
 |_=>false
def yQ(c:Ck)(s:cD)(o:41e9)(e:ar apw):al:=match e with
 |L=>vt o
 |G e=>lp o λE=>83 E e
def yR(c:Ck)(s:cD)(h:10e4)(es:23e6):al:=qc (λE e=>vI E&&83 E e) h es
def CG(c:Ck)(x:cD):D 40e2->D jl->10e4->al
 | [],_,_=>false
 |p::ps,h,s=>ln h λop h=>ln s λE s=>274 op p.1&&(c x (.x E p.2)&&match ps with
  | []=>kf h&&(kf s&&!ae6 op E)
  |_::_=>ln h λa h=>ln s λe s=>CG c x ps (a::h) (e::s))
def Ng(c:Ck)(x:cD):D (apw×apw)->D 41e9->10e4->al
 | [],s,h=>kf s&&kf h
 |p::l,s,h=>ln s λapv s=>ln h λV h=>lp apv λapv=>c x (.x apv p.1)&&(c x (.x V p.2)&&Ng c x l s h)
def yS(s:cD)(apu:PySem.a0)(n:I):al:=m5 apu λid h=>hq id n&&eu s id .ly
def CH(c:Ck)(h:cD)(s:10e4)(a:apw):al:=rW s λA=>vI A&&c h (.x A a)
def CI(c:Ck)(s:cD)(E:PySem.a0)(e:apw):al:=match AZ e with
 |L=>83 E e
 |G z=>xQ E λapu h x r=>kf x&&match z with
  | .a4 a=>yS s apu 44&&CH c s h a
  | .aE (.a4 a)=>yS s apu 57&&CH c s h a
  | .aE (.aE (a,b))=>yS s apu 70&&ln h λA h=>vI A&&(83 A a&&CH c s h b)
def Nh(E:PySem.a0):al:=!I.bY E.cf 7
def hP(s:cD)(apq:PySem.a0)(k:I):al:=m5 apq λid h=>id==5e5&&(146 s id||eu s id .dm)
def CJ(s:cD)(apq:PySem.a0)(x:Tg):al:=match x with
 | .n k=>hP s apq k
 | .t l=>tG apq λe h h=>qc (hP s) e l
def Ni(s h:cD)(m:Tg):al:=bK (s.d9= .jJ)&&bK (s.bq.aj (·.1)).dT&&s.bq.dJ (λp=>match p.2 with
  | .cV=>(MM m).fN (λk=>p.1==5e5)||p.1==33e8
  | .eG=>eu h p.1 .dm||eu h p.1 .eG
  | .dm=>false
  |_=>true)&&146 s 33e8
def CK(c:Ck)(s:cD)(b apq:PySem.a0)(a:10e4)(x:apw)(r:Tg)(h:23e6):al:=match r with
 | .n m=>m5 apq λid p=>id==nm m&&146 s id&&(qc (λE e=>c s (.t E e)) a h&&83 b x)
 | .t _=>true
def CL(c:Ck)(s:cD)(E:PySem.a0)(x:apw)(h:Tg)(it:apw)(e:23e6):al:=Bj E λa gs cs b=>rW gs λg=>
 decide (g.is_async=0)&&(Ni cs s h&&(! 146 s 33e8&&(CI c s g.lM it&&(Nh g.lM&&CK c (qa cs s) a g.iR g.j7 x h e))))
def LR(apu:PySem.a0):al:=I.bY apu.cf 23||(I.bY apu.cf 21||I.bY apu.cf 16)
def vZ(c:Ck)(s:cD)(E:PySem.a0)(e:apw):al:=match e with
 | .c v=>KF E λk h h=>Vm k v
 | .l n=>m5 E λid h=>hq id n&&146 s id
 | .eU n=>m5 E λid h=>hq id n&&(eu s id .dm||eu s id .eG)
 | .oF n=>m5 E λid h=>hq id n&&(eu s id .dm||eu s id .eG)
 | .g n=>yS s E n
 | .eY o n=>xR E λaps a h=>a==4e6&&(vP aps&&83 aps o)
 | .a2 a i=>xS E λA apy h=>83 A a&&83 apy i
 | .kI a lo app=>xS E λA apy h=>KG apy λapt apA t h=>vt t&&(83 A a&&(yQ c s apt lo.pC&&yQ c s apA app.pC))
 | .a7 op a b=>QU E λA m B h=>274 m op&&(83 A a&&83 B b)
 | .oG a=>Bh E λop A h=>304 .Not&&83 A a
 | .gZ a=>Bh E λop A h=>304 .USub&&83 A a
 | .lg l=>xP E λop r h=>304 .i3&&qc (λE e=>83 E e) r l
 | .i6 l=>xP E λop r h=>304 .Or&&qc (λE e=>83 E e) r l
 | .bU a o l=>KD E λA u r h=>83 A a&&CG c s (o.fw l) u r
 | .ff t a b=>KB E λapq A B h=>c s (.t apq t)&&(83 A a&&83 B b)
 | .X l=>tG E λr h h=>yR c s r l&&I.g4 l.U 1000
 | .ad l=>eList E λr h=>yR c s r l
 | .oH k v=>QW E λw j h=>Ng c s (k.fw v) w j&&I.jN (k.fw v).U 16
 | .iD x d it q=>CL c s E x d it q
 | .aX f es=>xQ E λapu r p h=>kf p&&(LR apu&&(83 apu f&&yR c s r es))
 | .bl o n es=>xQ E λapu r p aU=>kf p&&xR apu λaps a sv=>a==4e6&&(vP aps&&(83 aps o&&(yR c s r es&&(I.jN r.U 30&&sv.Mf==aU.iF))))
 | .lam=>false
 | .d3 _=>false
def v0:apw->apw
 | .d3 e=>e
 |e=>e
def Nj:PySem.a0->al
 | .rY .Not _ _=>false
 | .pM .. =>false
 | .vu .. =>false
 | .vv .. =>false
 |_=>true
def Vn(c:Ck)(s:cD)(E:PySem.a0)(e:apw):al:=match e with
 | .oG a=>Bh E λop A x=>304 .Not&&c s (.t A a)
 | .lg l=>xP E λop h x=>304 .i3&&qc (λE e=>c s (.t E e)) h l
 | .i6 l=>xP E λop h x=>304 .Or&&qc (λE e=>c s (.t E e)) h l
 | .ff t a b=>KB E λapq A B x=>c s (.t apq t)&&(c s (.t A a)&&c s (.t B b))
 | .bU a o l=>KD E λA r h x=>83 A a&&CG c s (o.fw l) r h
 |e=>Nj E&&vZ c s E (v0 e)
def Nk(c:Ck)(s:cD):I->PySem.a0->Internal.apq->al
 |0,_,_=>false
 |k+1,apq,t=>match t with
  | .n m=>hP s apq m
  | .a x n=>xR apq λaps a h=>a==4e6&&83 aps x
  | .s x b=>xS apq λaps apy h=>83 aps x&&83 apy b
  | .sl x lo r=>xS apq λaps apy h=>KG apy λapt apA t h=>vt t&&(83 aps x&&(yQ c s apt lo&&yQ c s apA r))
  | .t ts=>tG apq λe h h=>qc (λapq t=>44e1&&Nk c s k apq t) e ts
def Nl:50e8->ar (D I)
 | []=>G []
 |t::l=>match t with
  | .n k=>(Nl l).aj (k:: ·)
  |_=>L
def Nm(c:Ck)(h:cD)(apq E:PySem.a0)(t:Internal.apq)(e:apw):al:=m5 apq λs b=>tn t λk=>Rc (v0 e) λx p it a=>(Bj E λr r cs aU=>
 s==5e5&&(146 h s&&(b.iF==aU.iF&&!(cs.bq.fN λ(n,k)=>n==s&&(k== .cV||k== .dm)))))&&CL c h E x p it a
def Vo(o:PySem.a0->am->I->al)(B:11e1)(b:15e5):al:=rW B λS=>KH S λR h=>lp R λR=>tG R λx h h=>ln x λapv x=>rW x λA=>KF apv λz h h=>xR A λaps w h=>
 rW b λs=>abp s λr=>lp r λr=>Rb r λes=>ln es λapp es=>rW es λa=>xc app λv=>Ra a λe n=>KM z λz=>abq v λk=>xl e λp=>z==k&&(w==4e6&&(I.bY n 58&&o aps z p))
def Nn(s:cD):D (apw×ar I×15e5)->D q0->al
 | [],hs=>kf hs
 |(e,o,b)::p,hs=>ln hs λh hs=>Nn s p hs&&match h with
  | .q0 C i B _=>lp C λC=>m5 C λa r=>lp i λx=>xg e λk=>lp o λn=>
   hq a k&&(eu s a .ly&&(hq x n&&(146 s x&&Vo (λaps r m=>I.bY n m&&m5 aps λid r=>id==x) B b)))
def Vp(c:Ck)(x:cD)(S:cm)(s:Internal.S):al:=match s with
 | .bz t e=>Q0 S λm E p=>rW m λapq=>cC (vQ E) (c x (.x E e)&&lp (yB x apq E) λr=>match r with
    |L=>44e1&&Nk c x 3 apq t
    |G l=>tG apq λp p p=>tG E λp p p=>tt t λts=>lp (Nl ts) λns=>decide (l=ns.aj nm)&&(ns.dJ (λn=>146 x 4e6)&&bK ns.dT)) (Nm c x apq E t e)
 | .ex e=>Q8 S λE p=>vQ E&&c x (.x E e)
 | .bk o=>KH S λr p=>match o with
  |L=>vt r
  |G e=>lp r λE=>c x (.x E e)
 | .bD t a b=>Q5 S λapq A B p=>c x (.t apq t)&&(c x (.b A a)&&c x (.b B b))
 | .lO t b=>Q2 S λapq B apu p=>kf apu&&(c x (.t apq t)&&c x (.b B b))
 | .mr v i b=>Q1 S λapq apy B apu p=>kf apu&&(CJ x apq v&&(CI c x apy i&&(Nh apy&&c x (.b B b))))
 | .kJ e=>Q6 S λE C p=>vt C&&lp E λE=>c x (.x E e)
 | .AQ b hs=>KJ S λB apz apx apu p=>kf apx&&(kf apu&&(c x (.b B b)&&ln apz λh0 h=>Nn x hs (h0::h)))
 | .xf b f=>KJ S λB apz apx apu p=>kf apz&&(kf apx&&(c x (.b B b)&&ln apu λk apu=>c x (.b (k::apu) f)))
 | .AR=>Q9 S λp=>true
def fc:I->Ck
 |0,_,_=>false
 |k+1,sc,t=>match t with
  | .x E e=>vZ 18e1 sc E (v0 e)
  | .t E e=>Vn 18e1 sc E e
  | .s S s=>Vp 18e1 sc S s
  | .b B b=>match b with
   | []=>kf B
   |s::b=>ln B λS B=>fc k sc (.s S s)&&fc k sc (.b B b)
def Vq(o:aA):ar jB:=match o.bf with
 | .mi fd=>G fd
 |_=>L
def lD(P:ay)(a:I):ar jB:=((8e0).nv (352 a)).cr λp=>Vq p.2
noncomputable def No(P:ay)(a:I)(fn:Fn):al:=match lD P a with
 |G fd=>(match fd.cX with
  | .mS B=>fc 60 fd.bt (.b B fn.cX)
  |_=>false)
 |L=>false
def q2(r:2e9):3e2:=r.aF λa F=>match a with
   | .v v=> 21e8
   |_=> .no 118
def iI(d:I)(tk:Tk)(F:MS)(r:2e9):Prop:=match tk with
 | .x e=>(∀k sc E,fc k sc (.x E e)=true->43 E (cj (λh h=>r) e F))/\∀k sc apq E t aU q,Nm 18e1 sc apq E t e=true->JS d sc (.pO [apq] E aU) F (132 (cj (λh h=>r) e F).aF (m0 (jO q 3 t v F)))
 | .t e=>∀k sc E,fc k sc (.t E e)=true->JT d sc E F (mw (λh h=>r) e F)
 | .s s=>(∀k sc S,fc k sc (.s S s)=true->JS d sc S F r)/\∀k sc apq B t b,s= .lO t b->fc k sc (.t apq t)=true->fc k sc (.b B b)=true->JW d sc apq B F r
 | .ss b=>∀k sc B,fc k sc (.b B b)=true->JB d sc B F r
 | .aX f as=>JC d f as F (q2 r)/\∀(x:Fx) (J:aW) (s:ae) (Q:0e5) (EE:0e5),10 (q2 r)->kT F f
 | .gj a it i b=>∀k sc apq B,CJ sc apq a=true->oQ it a=true->fc k sc (.b B b)=true->JF d sc apq it i B F r
 | .mt x a n it i j=>∀k kl m w apq p cs aU,CK 18e1 kl m apq p x a n=true->oQ it a=true->JE d kl (133 m apq w p cs) it i j F r
def fO(ih:Ih)(d:I):Prop:=∀tk F,iI d tk F (ih tk F)
section
variable{ih:Ih}{d k:I}{sc:cD}
def fO.x(apz:14e3)(h:fc k sc (.x E e)=true):PX ih d sc E e:=λF=>(apz (.x e) F).1 k sc E h
def fO.t(apz:14e3)(h:fc k sc (.t E e)=true):PT ih d sc E e:=λF=>apz (.t e) F k sc E h
def fO.b(apz:14e3){B:11e1}{b:15e5}(h:fc k sc (.b B b)=true):PB ih d sc B b:=λF=>apz 12e5 F k sc B h
def q3{α β:Type}{p:α->β->al}{q:17e7}(h:∀a b,p a b=true->q a b):∀{l:8e4} {m:D β},qc p l m=true->cJ q l m
 | [],_,e=>kg e .aR
 |a::_,_,e=>lU e λb s e=> .aQ (h a b (ba e).1) (q3 h (ba e).2)
def fO.xs(apz:14e3)(h:yR 18e1 sc Es es=true):cJ (kR ih d sc) Es es:=q3 (λE e h=>⟨7e5,apz.x 7e0⟩) h
def fO.o(apz:14e3)(h:yQ 18e1 sc E e=true):PO ih d sc E e:=by
 cases e with
 |L=>exact xO h .L
 |G e=>exact pL h λE h=> .G (apz.x h)
def fO.c(apz:14e3):∀{x:D jl} {s:10e4},CG 18e1 sc ps x s=true->FC ih d sc x s ps:=by
 induction ps with
 |aR=>exact λh=>nF h
 |aQ p ps b=>
  obtain⟨a,e⟩:=p;intro x s h;show lU h λop x h=>lU h λE s h=>?_;cases fo (ba h).1;have h:=7e0;cases ps with
  |aR=>exact kg 28e0 (kg (27e4).1 (.ej (al.w7 _▸(27e4).2) 45e2))
  |aQ q ps=>exact lU 7e0 λm x g=>lU g λr s g=> .aQ 45e2 (b g)
def fO.dd(apz:14e3):∀{l:D (apw×apw)} {e:D 41e9} {x:10e4},Ng 18e1 sc l e x=true->FD ih d sc e x l
 | [],_,_,h=>kg 7e5 (kg 7e0 .aR)
 |_::_,_,_,h=>lU h λs s h=>lU h λs s h=>pL h λs h=> .aQ 45e2 52e1 (fO.dd apz 31e7)
def aiQ(h:Vm c v=true):KC c v:=by
 cases v with
 |aa x=>
  show oA 18e3 λh1 h2=>?_;cases x<;>first|(cases h1;done)|(cases c<;>first|(cases h2;done)|exact .L)
 |bp b _=>exact adE h λd h=>jv h▸ .bp _ _
 |y i _=>exact adF h λd h=>fo h▸ .y _ _
 |ag s=>exact Rg h λd h=>jv h▸ .ag _
 |ch l=>exact adG h λd h=>by cases fo (ba h).1;exact .ch _ (I.cz 7e0)
 |_=>cases h
def aiR(apz:14e3)(r:nW)(w:∀fz,∀x:Fx,qX ih fz d x)(P:∀x m it p,e≠ .iD x m it p)(h:vZ 18e1 sc E e=true)(fz:al)(F:MS):43 E (tD ih fz e F):=by
 cases e with
 |c v=>exact QY h λs s s h=>aeQ (aiQ h)
 |l n=>exact oR h λs s h=>So 7e5 7e0
 |eU n=>exact oR h λs s h=>Sq 7e5 7e0
 |oF n=>exact oR h λs s h=>Sq 7e5 7e0
 |g n=>exact oR h λs s h=>yi 7e5 7e0
 |eY o n=>exact Bk h λs s s h=>jv 7e5▸af4 r (apz.x 31e7) 28e0
 |a2 a i=>exact Bl h λs s s h=>agq 45e2 (apz.x 7e0)
 |kI a lo S=>exact Bl h λs s s h=>QZ h λs s s s h=>xO 7e5 (ago 52e1 (apz.o (27e4).1) (apz.o (27e4).2))
 |a7 op a b=>exact eBinOp_ h λs s s s h=>42e7▸aeS (apz.x 28e0 F) (apz.x 31e7)
 |oG a=>exact KA h λs s s h=>42e7▸aeU (apz.x 7e0 F)
 |gZ a=>exact KA h λs s s h=>42e7▸aeX (apz.x 7e0 F)
 |lg l=>exact Bf h λs s s h=>42e7▸Su (op:= .i3) (398 (apz.x h) 7e0)
 |i6 l=>exact Bf h λs s s h=>42e7▸Su (op:= .Or) (398 (apz.x h) 7e0)
 |bU a o l=>exact QX h λs s s s h=>afb 45e2 (apz.c 7e0)
 |ff t a b=>exact QV h λs s s s h=>aeY (apz.t 7e5 F) 52e1 (apz.x 31e7)
 |X l=>exact tH h λs s s h=>afg (apz.xs 7e5) 7e0
 |ad l=>exact ads h λs s h=>afh (apz.xs h)
 |oH k v=>exact eDict_ h λs s s h=>aih (apz.dd 7e5) 7e0
 |iD x m it p=>exact bM H (P _ _ _ _)
 |aX f es=>exact KE h λapu u q aU h=>kg 7e5 (afQ (apz.x (27e4).1) (apz.xs (27e4).2) (w fz) λab=>by
   have R:=28e0
   clear h
   cases apu<;>first|exact Cu .. |rfl|cases R)
 |bl o n es=>exact KE h λapu u q aU h=>kg 7e5 (Bk 7e0 λs s s h=>by
   show oA 18e3 λh1 h=>?_
   show oA 18e3 λh2 h=>?_
   show oA 18e3 λh3 h=>?_
   show oA 18e3 λj h=>?_
   show oA 18e3 λapp z=>?_
   repeat clear h
   cases jv h1
   exact af7 r (apz.x h3) h2 (apz.xs j) app z (w fz) λx=>ahH x)
 |lam=>cases h
 |d3 e=>cases h
universe e
section
variable{ih:Ih}{d k:I}{sc:cD}
set_option tactic.hygienic true in
theorem Np{s:cD}{id:am}{k:hw}(h:eu s id k=true):s.bq.bZ id=G k:=by
 unfold eu at h;split at h
 ·rename_i x e;rw[e,fo h]
 ·cases h
def aiS(h:Ni cs sc tg=true):un cs sc tg:=by
 unfold Ni at h;simp-fs only[al.lb,mW,D.ib]at h;(show oA h λs x=>?_;try clear h;(show oA s λs h3=>?_;obtain⟨h1,h2⟩:=s));show⟨h1,h2,λn e=>?_,λn e=>?_,λn e=>?_,Np x⟩
 ·have:=h3 _ (nc e);simp only[al.Vr,D.p8,AB]at bb;exact bb
 ·have:=h3 _ e;simp only[al.Vr]at bb;exact bb.f5 Np Np
 ·exact nF (h3 _ (nc e))
def itx:apw ⊕ apw ⊕ apw×apw->apw
 | .a4 a=> 168 44 [a]
 | .aE (.a4 a)=> 168 57 [a]
 | .aE (.aE (a,b))=> 168 70 [a,b]
def apw.g_{x:apw}{n}(e:x.g?=G n):x= .g n:=by
 cases x with
 |g=>exact 11e6▸H
 |_=>exact 18e0
def apw.ca_{x:apw}{p}(e:x.xE=5e1):x= .aX p.1 p.2:=by
 cases x with
 |aX=>exact 11e6▸H
 |_=>exact 18e0
def aiT{e:apw}{z:apw ⊕ apw ⊕ apw×apw}(h:AZ e=G z):e=itx z:=
 oB h λp h1 h=>oB h λn h2 h=>by
  rw[apw.ca_ h1,apw.g_ h2];obtain⟨f,es⟩:=p;clear h1 h2;cases es with
  |aR=>exact nS h
  |aQ a es=>cases es with
   |aR=>exact cS h 56e2 λs h=>cS h 56e2 λs h=>nS h
   |aQ b es=>cases es with
    |aR=>exact cS h 56e2 λs h=>nS h
    |aQ=>exact nS h
@[elab_as_elim] def Nq {C:PySem.a0->Prop} (h:yS sc apu n=true) (g:∀id p,hq id n=true->eu sc id .ly=true->C (.dr id p)):C apu:=oR h λa b h=>g a b (ba h).1 (ba h).2
@[elab_as_elim] def Nr (apz:fO ih d) {C:D PySem.a0->Prop} (h:CH (fc k) sc aqI a=true) (g:∀A,kR ih d sc A a->C [A]):C aqI:=tF h λA h=>g A ⟨(ba h).1,apz.x (ba h).2⟩
def Vt(apz:14e3)(h:CI 18e1 sc E e=true):PI ih d sc E e:=by
 unfold CI at h;cases q:AZ e with
 |L=>rw[q]at h;exact ag4 (apz.x h) λF=>by unfold tC;first|(rw[q];done)|(rw[q];rfl)
 |G z=>
  rw[q]at h;rw[aiT q];clear q;show KE h λapu s r x h=>kg 7e5 ?_;have h:=7e0;rcases z with a|a|⟨a,b⟩
  ·exact Nq 7e5 λid p h1 h2=>Nr apz 7e0 λA g=>ag5 g h1 h2
  ·exact Nq 7e5 λid p h1 h2=>Nr apz 7e0 λA g=>ag7 g h1 h2
  ·exact Nq 7e5 λid p h1 h2=>lU 7e0 λA s h=>Nr apz 31e7 λB g=>aiN ⟨7e5,52e1⟩ g h1 h2
def Vu{apy:PySem.a0}(h:Nh apy=true)(ab:ez)(x:af):u8 apy ab x=b9 x:=by
 cases apy<;>first|rfl|cases h
@[elab_as_elim] def Vv (apz:fO ih d) {C:PySem.a0->Prop} (h:CL (fc k) sc E x tg it j7=true)
  (g:∀e apq s a cs aU,un cs sc tg->sc.bq.bZ (".0" :am)≠G .cV->PI ih d sc s it->(∀ab x,u8 s ab x=b9 x)->CK (fc k) (qa cs sc) e apq a x tg j7=true->C (.gV e [⟨apq,s,a,0⟩] cs aU)):C E:=
 adr h λe gs cs aU h=>tF h λ⟨apq,s,a,z⟩ h=>by
  cases fo (ba h).1;have h:=(ba h).2;show g e apq s a cs aU (aiS (ba h).1) (λq=>?_) (Vt apz (ba (ba (ba h).2).2).1) (Vu (ba (ba (ba (ba h).2).2).2).1) (ba (ba (ba (ba h).2).2).2).2;have h2:=(ba (ba h).2).1;unfold eu at h2;rw[q]at h2;cases h2
def aiU(apz:14e3)(h:CL 18e1 sc E x tg it j7=true)(fz:al)(F:MS):43 E (tD ih fz (.iD x tg it j7) F):=
 Vv apz h λs s s s s s h1 h2 h3 e a=>ahq (rl:=λvs j F=>ih (.mt x tg j7 vs 0 j) F) h1 h2 h3 e λvs j aS b=>apz (.mt x tg j7 vs 0 j) aS k _ _ _ _ _ _ _ a b
def aiV(apz:14e3)(a:nW)(b:∀fz,∀x:Fx,qX ih fz d x)(h:vZ 18e1 sc E e=true)(fz:al)(F:MS):43 E (tD ih fz e F):=by
 cases e with
 |iD x p it r=>exact aiU apz h fz F
 |_=>exact aiR apz a b (λs s s s=>by intro q;cases q) h fz F
universe e
section
variable{ih:Ih}{d k:I}{sc:cD}
def Vw(r:3e2)(e:apw)(F:MS):cj (λs s=>mx r) e F=r:=by
 unfold cj mx;cases r with
 |aT a F o=>exact bC (R.aT a F) ((D.dZ _).aV (D.dZ o))
 |a8 i F o=>rfl
 |no=>rfl
def aiW(r:R al)(e:apw)(F:MS):mw (λs s=>r.aF λb F=> 7 (.b b)) e F=r:=by
 unfold mw;cases r with
 |aT a F o=>exact bC (R.aT a F) ((D.dZ _).aV (D.dZ o))
 |a8 i F o=>rfl
 |no=>rfl
def Vx(ih:Ih)(e:apw)(F:MS):∃fz,rS ih e F=tD ih fz (v0 e) F:=by
 cases e<;>first|exact⟨true,H⟩|exact⟨false,H⟩
def Vy(apz:14e3)(a:nW)(s:∀fz,∀x:Fx,qX ih fz d x)(h:vZ 18e1 sc E (v0 e)=true)(F:MS):43 E (rS ih e F):=by
 show oE (Vx ih e F) λfz q=>?_;rw[q];exact aiV apz a s h fz F
def aiX{A:PySem.a0}(h:Nj A=true)(ab:ez):sU A ab (77 A)=(do let v<-77 A;kw A.aU;gq [v] (PySem.ll v)):=by
 cases A with
 |rY op a p=>cases op<;>first|rfl|cases h
 |_=>first|rfl|cases h
def aiY(apz:14e3)(p:nW)(r:∀fz,∀x:Fx,qX ih fz d x)(h:Vn 18e1 sc E e=true)(F:MS):JT d sc E F (Ko ih e F):=by
 have hN:∀e,Nj E=true->vZ 18e1 sc E (v0 e)=true->JT d sc E F (BY (rS ih e F) 127):=λe h1 h2=>ae1 (Vy apz p r h2 F) (aiX h1);cases e with
 |oG a=>exact KA h λs s s h=>42e7▸aeZ (apz.t 7e0 F)
 |lg l=>exact Bf h λs s s h=>42e7▸Sv (op:= .i3) (398 (apz.t h) 7e0)
 |i6 l=>exact Bf h λs s s h=>42e7▸Sv (op:= .Or) (398 (apz.t h) 7e0)
 |ff t a b=>exact QV h λs s s s h=>ae0 (apz.t 7e5 F) (apz.t 28e0) (apz.t 31e7)
 |bU a o l=>exact QX h λs s s s h=>aff (w:=127) 45e2 (apz.c 7e0)
 |_=>exact hN _ 7e5 7e0
@[elab_as_elim] def Nt {C:PySem.a0->Prop} {apq:PySem.a0} {n:I} (h:hP sc apq n=true) (g:∀p,(eu sc (nm n) .cV||eu sc (nm n) .dm)=true->C (.dr (nm n) p)):C apq:=oR h λa p h=>by
 cases jv (ba h).1;exact g p (ba h).2
def aiZ(apz:14e3)(b:nW)(j:I):∀{apq:PySem.a0} {t:Internal.apq},Nk 18e1 sc j apq t=true->PA ih d sc j apq t:=by
 induction j with
 |i4=>intro apq t h;cases h
 |hG j r=>
  intro apq t h;cases t with
  |n m=>exact Nt h λx h=>Co H h
  |a e n=>exact Bk h λx x x h=>jv 7e5▸agD b (apz.x 7e0)
  |s e p=>exact Bl h λx x x h=>agF 45e2 (apz.x 7e0)
  |sl e lo v=>exact Bl h λx x x h=>QZ h λx x x x h=>xO 7e5 (agH 52e1 (apz.o (27e4).1) (apz.o (27e4).2))
  |t ts=>exact tH h λx x x h=>T3 (q3 (λapq t h=>⟨7e5,r 7e0⟩) h)
def ai0{α β γ:Type}{p:α->γ->Prop}{f:β->γ}{l:8e4}{m:D β}(h:cJ (λa b=>p a (f b)) l m):cJ p l (m.aj f):=by
 induction h with
 |aR=>exact .aR
 |aQ a _ ih=>exact .aQ a ih
def CM{apq:PySem.a0}{x:Tg}(h:CJ sc apq x=true)(j:I):PA ih d sc (j+2) apq (MI x):=by
 cases x with
 |n k=>exact Nt h λs h=>Co H h
 |t l=>exact tH h λs s s h=>T3 (ai0 (q3 (λapq t h=>Nt (C:=λapq=>44e1=true/\PA ih d sc (j+1) apq (.n t)) h λs h=>⟨H,Co H h⟩) h))
def CN{apq:PySem.a0}{e:Tg}{it:It}(h:CJ sc apq e=true)(h2:oQ it e=true):Cr it apq:=by
 cases it with
 |gL s=>
  cases e with
  |n=>cases h2
  |t l=>exact tH h λx x x x=>⟨_,_,_,H⟩
 |_=>trivial
def ai1(h:(lp C λC=>m5 C λu x=>lp i λq=>xg e λk=>lp o λn=>
   hq u k&&(eu sc u .ly&&(hq q n&&(146 sc q&&Vo (λaps x j=>I.bY n j&&m5 aps λid x=>id==q) B b))))=true):Nb sc (.q0 C i B p) (e,o,b):=by
 show pL h λC h=>oR h λu x h=>pL h λq h=>xg_ h λk h=>pL h λn h=>?_;show oA 18e3 λh1 h=>?_;show oA 18e3 λh2 h=>?_;show oA 18e3 λh3 h=>?_;show oA 18e3 λf hr=>?_;repeat clear h
 cases(t5 h1).1;cases(t5 h3).1;show tF hr λS h=>KI h λR x h=>pL h λR h=>tH h λd x x h=>lU h λapv d h=>tF h λA h=>QY h λz x x h=>Bk h λaps w x h=>
  tF h λs h=>adC h λr h=>pL h λr h=>adA h λes h=>lU h λapp es h=>tF h λa h=>xc_ h λv h=>adz h λe m h=>Rg h λz h=>adD h λP h=>xl_ h λj h=>?_
 show oA 18e3 λt h=>?_;show oA 18e3 λg h=>?_;show oA 18e3 λl h=>?_;show oA 18e3 λc hz=>?_;repeat clear h
 cases jv t;cases jv g;cases I.fZ l;cases I.fZ c;exact oR hz λid x h=>by cases jv h;exact .mk h1 h2 h3 f
def ai2:∀{hs:D q0},Nn sc s hs=true->FH sc hs s:=by
 induction s with
 |aR=>exact λh=>kg h .aR
 |aQ q s ih=>
  obtain⟨e,o,b⟩:=q;exact λh=>lU h λa hs h=>by
   obtain(⟨C,i,B,p⟩):=a;exact .aQ (ai1 7e0) (ih 7e5)
universe e
section
variable{ih:Ih}{d k:I}{sc:cD}
def ai3{ts:50e8}:∀{ns:D I},Nl ts=G ns->ts=ns.aj .n:=by
 induction ts with
 |aR=>intro ns h;cases h;rfl
 |aQ t l x=>
  intro ns h;cases t with
  |n k=>
   (show aN (ar.ha.mp h) λm h1 s=>?_;subst s);rw[x h1];rfl
  |_=>exact nS h
def Vz{α:Type}{o:29e6}{p}(h:lp o p=true):∃a,o=11e3/\p a=true:=pL (C:=λo=>∃a,o=11e3/\p a=true) h λa h=>⟨a,H,h⟩
def ai4(apz:14e3){apq E:PySem.a0}{t:Internal.apq}{e:apw}{aU:dA}{p:Ih}(h:Nm 18e1 sc apq E t e=true)(F:MS):JS d sc (.pO [apq] E aU) F (132 (rS ih e F).aF (m0 (jO p 3 t v F))):=by
 show oE (Vx ih e F) λfz q=>?_;rw[q];exact oR h λs r h=>Rd h λn h=>adB h λx b it a h=>Vv apz (C:=λE=>(Bj E λw w cs aU=>s==4e6&&(146 sc s&&(r.iF==aU.iF&&!(cs.bq.fN λ(n,k)=>n==s&&(k== .cV||k== .dm)))))=true->JS d sc (.pO [.dr s r] E aU) F (132 (tD ih fz (.iD x b it a) F).aF (m0 (jO p 3 (.n n) v F)))) 7e0 (λl apq c o cs aU g1 g2 g3 i m h=>
  ail (ih:=ih) (d:=d) (k:=3) (rl:=λvs j F=>ih (.mt x b a vs 0 j) F) g1 g2 g3 i (Co (jv 7e5) (al.Vr _ _▸ .a4 28e0)) (ba 7e0).1 (27e4).1 (al.w7 _▸(27e4).2) λvs j aS u=>apz (.mt x b a vs 0 j) aS k _ _ _ _ _ _ _ m u) 7e5
def ai5(apz:14e3)(v:nW)(hX:vY){S:cm}{s:Internal.S}(h:Vp 18e1 sc S s=true)(F:MS):JS d sc S F (A5 ih s F):=by
 cases s with
 |bz t e=>
  exact adt h λu E aU h=>tF h λapq h=>by
   cases m:vQ E with
   |false=>rw[m]at h;exact(apz (.x e) F).2 k sc apq E t aU ih h
   |true=>
    rw[m]at h;show oA 18e3 λh1 h=>?_;show aN (Vz h) λr p h=>?_;cases r with
    |L=>exact agS (apz.x h1) (aiZ apz v 3 7e0) 7e5 m p
    |G l=>
     revert h1 p;exact tH h λx x x h=>tH h λx x x h=>tt_ h λts h=>by
      show aN (Vz h) λns q h=>?_;rw[ai3 q];cases fo (ba h).1;exact λh1 p=>agT (k:=1) (apz.x h1) p 28e0 (fo 31e7)
 |ex e=>exact adx h λx x h=>aga (apz.x 7e0 F) 7e5
 |bk o=>
  cases o with
  |L=>exact KI h λx x h=>xO h age
  |G e=>exact KI h λx x h=>pL h λx h=>agd (apz.x h F)
 |bD t a b=>exact adv h λx x x x h=>agg (apz.t 7e5 F) (apz.b 28e0) (apz.b 31e7)
 |lO t b=>exact Q4 h λx x x x h=>kg 7e5 (TF (TE (apz.t 28e0 F) (apz.b 31e7) λaS=>(apz (.s (.lO t b)) aS).2 k sc _ _ _ _ H 28e0 31e7))
 |mr n i b=>
  exact adu h λx x x x x h=>kg 7e5 (by
   show oA (ba 7e0) λh1 h=>?_
   show oA 18e3 λh2 h=>?_
   exact ag8 (rl:=λit F=>ih (.gj n it 0 b) F) (Vt apz h2) (Vu 7e5) λit aS w=>apz (.gj n it 0 b) aS k sc _ _ h1 w 7e0)
 |kJ e=>exact adw h λx x x h=>xO 7e5 (pL 7e0 λx h=>ah1 hX (apz.x h F))
 |AQ b hs=>exact Q7 h λx x x x x h=>kg 7e5 (kg 28e0 (lU (27e4).2 λx x g=>ah7 hX (apz.b (27e4).1) (ai2 g)))
 |xf b f=>exact Q7 h λx x x x x h=>kg 7e5 (kg 28e0 (lU (27e4).2 λx x g=>aia (apz.b (27e4).1) (apz.b g)))
 |AR=>exact ady h λx x=>agf
def ai6(apz:14e3)(p:nW)(hX:vY)(o:∀fz,∀x:Fx,qX ih fz d x){c:ar Ih}{z:al}{tk:Tk}(P:∀f as,tk≠ .aX f as)(F:MS):iI d tk F (oo ih c z tk F):=by
 cases tk with
 |x e=>
  show⟨λk sc E h=>?_,λk sc apq E t aU R h=>?_⟩
  ·cases k with
   |i4=>cases h
   |hG k=>
    refine 43 E (cj (λa a=>mx (rS ih e F)) e F);rw[Vw];exact Vy apz p o h F
  ·refine JS d sc _ F ((cj (λa a=>mx (rS ih e F)) e F).aF _);rw[Vw];exact ai4 apz h F
 |t e=>
  intro k sc E h;cases k with
  |i4=>cases h
  |hG k=>
   refine JT d sc E F (mw (λa a=>(Ko ih e F).aF λb F=> 7 (.b b)) e F);rw[aiW];exact aiY apz p o h F
 |s s=>
  show⟨λk sc S h=>?_,λk sc apq B t b e h1 h2=>?_⟩
  ·cases k with
   |i4=>cases h
   |hG k=>exact ai5 apz p hX h F
  ·subst e;exact TE (apz.t h1 F) (apz.b h2) λaS=>(apz (.s (.lO t b)) aS).2 k sc _ _ _ _ H h1 h2
 |ss l=>
  intro k sc B h;cases k with
  |i4=>cases h
  |hG k=>
   cases l with
   |aR=>exact kg h af8
   |aQ s b=>exact lU h λa a h=>af9 ((apz (.s _) F).1 k sc _ 7e5) (apz.b 7e0)
 |aX f as=>exact bM H (P f as)
 |gj r it i b=>
  intro k sc apq B h1 h2 h3;exact Cs (kt:=0) (rb:=λF=>ih 12e5 F) (rl:=λF=>ih (.gj r it (i+1) b) F) (CM (ih:=ih) (d:=d) h1 0) (CN h1 h2) (apz.b h3) λaS=>apz (.gj r it (i+1) b) aS k sc apq B h1 h2 h3
 |mt x r v it i j=>
  intro k kl w app apq u cs aU h1 h2;cases r with
  |n m=>
   exact(oR (C:=λapq=>CK 18e1 kl w apq u x (.n m) v=true->JE d kl (133 w apq app u cs) it i j F _) h1 λa a g h0=>ahj (rl:=λF=>ih (.mt x (.n m) v it (i+1) j) F) (jv (ba (ba g).1).1) (ba (ba g).1).2 (398 (apz.t h) (ba (ba g).2).1) (apz.x (ba (ba g).2).2) (λs q=>by subst q;cases h2) λaS=>apz (.mt x (.n m) v it (i+1) j) aS k _ _ _ _ _ _ _ h0 h2) h1
  |t l=>exact ahk (w1:=159) (w2:=144)
universe e
def dfO(P:ay)(fd:jB):D (aI×aA):=(sb P fd.zO).f3
def CO(q:aI×aA):2e4:=match q.2.bf with
 | .cH xs _=>xs.f3
 |_=>[]
def VA(P:ay)(apB:iz)(A:dg)(s:ae)(u:I->af)(fn:Fn)(fd:jB)(j:I):6e1×b5 (283 af)×ae:=
 rn apB A (DL fd ⟨(D.dS (fn.ps.U-fn.ds.U+j)).aj u,[]⟩) ((dfO P fd).aj (·.2)) s
def VB(P:ay)(s:ae)(u:I->af)(fn:Fn)(fd:jB)(j:I):6e1×b5 (283 af)×ae:=
 ((dfO P fd).aj λq=>s.M.ao q.1=G q.2,.b9 ((fn.ps.aj nm).fw ((D.dS (fn.ps.U-fn.ds.U+j)).aj u++((dfO P fd).tN CO).fh j)),s)
def Nu{α:Type}(P:ay)(p:I×Fn)(f:jB->I->α):8e4:=(lD P p.1).ak [] λfd=>(D.dS (p.2.ds.U+1)).aj (f fd)
set_option maxHeartbeats 0 in
theorem ai7(P:ay)(apB:iz)(A:dg)(s:ae)(u:I->af):ft.aj (λp=>Nu P p (VA P apB A s u p.2))=ft.aj λp=>Nu P p (VB P s u p.2):=av
def ai8(P:ay):ft.aj (λp=>p.2.ds.aj xH)=ft.aj λp=>(lD P p.1).ak [] λfd=>((dfO P fd).tN CO).aj r9:=av
def ai9(P Q:ay):(ft.aj λp=>lD P p.1)=ft.aj λp=>lD Q p.1:=av
def CQ(fd:jB)(fn:Fn):Prop:=fd.bt.zB=false/\fd.bt.zC=false/\fd.bt.d9= .jJ/\fd.g8=iB/\fd.rk=[]/\fd.jC=mU/\
 (fd.bt.bq.aj (·.1)).dT/\(∀app∈fd.bt.bq,app.2≠ .eG)/\fn.ps.dT/\(∀p∈fn.ps,fd.bt.bq.bZ (nm p)=12e3\/fd.bt.bq.bZ (nm p)=18e8)/\fn.ds.U<=fn.ps.U
def VC(fd:jB)(fn:Fn):rg (CQ fd fn):=by unfold CQ;infer_instance
def codeB(P:ay)(fd:jB):al:=(sb P fd.dH).fN λp=>match p.2.bf with
 | .cp vs=>(match(vs[1]? :12e4)with
  |G (af.ag q _)=>q==fd.pc
  |_=>false)
 |_=>false
def VD(fd:jB):11e1:=match fd.cX with
 | .mS B=>B
 |_=>[]
def okF(P:ay)(p:I×Fn):al:=(lD P p.1).fN λfd=>codeB P fd&&(@bK (CQ fd p.2) (VC fd p.2))
set_option maxHeartbeats 0 in
theorem VE(P:ay):ft.dJ (okF P)=true:=av
def aja(P:ay):ft.aj (λp=>(lD P p.1).aj (·.cX))=ft.aj λp=>(lD P p.1).aj λfd=> .mS (VD fd):=av
def ajb(P:ay):ft.dJ (λp=>Tt 8e0 7e2)=true:=av
def ajc(P:ay):ct.dJ (λp=>Tt 8e0 7e2)=true:=av
def ajd(h:lD P a=G fd):∃o,(a,o)∈8e0/\o.bf= .mi fd:=by
 (show aN (ar.k7.mp h) λs e h=>?_;obtain⟨b,o⟩:=s);cases(I.fZ (D.find?_some (p:=λp:aI×aA=>I.bY p.1 a) e):b=a);show⟨o,D.uP e,?_⟩;unfold Vq at h;cases hd:o.bf with
 |mi f=>rw[hd]at h;exact bC _ 52e7
 |_=>rw[hd]at h;exact nN h
def kA(s:d<=p)(h:u+(d-(u+d-p))=p):p-d+(u+d-p)=u/\u+d-p<d+1:=by
 have h1:p<=u+d:=I.dW (I.hZ h.bi) (I.agt (I.Se ..) _);have h2:u<=p:=I.dW (I.tS ..) (I.hZ h);exact⟨by rw[I.BQ,I.sub_add_sub_cancel h1 s,I.add_sub_cancel],I.lt_succ_of_le (I.sub_le_iff_le_add'.bn (I.TR h2 d))⟩
def aje(h:codeB P fd=true)(A:253 hp):hp.zD fd.dH fd.pc:=by
 (show aN (51e8 h) λx a h=>?_;obtain⟨c,o⟩:=x);show oA (ya a) λe m=>?_;dsimp only at h e;cases hd:o.bf with
 |cp vs=>
  rw[hd]at h;dsimp only at h;cases s:vs[1]? with
  |L=>rw[s]at h;exact nF h
  |G u=>
   rw[s]at h;cases u with
   |ag q t=>exact⟨c,o,vs,t,e,A _ m,hd,s.aV (by rw[jv h])⟩
   |_=>exact nF h
 |_=>rw[hd]at h;exact nF h
def ajf(u:af)(us:2e4):(D.dS us.U).aj (λi=>us[i]?.ge u)=us:=
 D.ext_getElem (by rw[D.fq,D.VF]) λi h1 h2=>by rw[D.getElem_map,D.getElem_range,D.ic h2];rfl
def ajg(w:ay)(hm:(a,fn)∈ft)(k:∀P,lD P a=G fd)(n:fn.ds.U<=fn.ps.U)(s:ae)(P:ay)(apu:253 s.M)(J:aW)(vs:0e0)(us:2e4)(m:169 vs)
  (hl:(vs++fn.jp vs.U).U=fn.ps.U):∃p,cx J s.M (vs++fn.jp vs.U) p/\BindsTo s fd (61 us) ((fn.ps.aj nm).fw p):=by
 have hd:=110 (ai8 P) hm;rw[k P]at hd;have hd:fn.ds.aj xH=((dfO P fd).tN CO).aj r9:=hd;have b:=iw m;have e:vs.U+fn.ds.U-fn.ps.U=us.U+fn.ds.U-fn.ps.U:=by rw[b]
 have e2:fn.jp vs.U=(((dfO P fd).tN CO).aj r9).fh (us.U+fn.ds.U-fn.ps.U):=by
  refine D.aj xH _=_;rw[D.VG,hd,e]
 have r:us.U+(fn.ds.U-(us.U+fn.ds.U-fn.ps.U))=fn.ps.U:=by
  rw[b,<-D.sf,<-D.fq xH,<-D.hM];exact hl
 have k1:fn.ps.U-fn.ds.U+(us.U+fn.ds.U-fn.ps.U)=us.U:=(kA n r).1;have k2:us.U+fn.ds.U-fn.ps.U<fn.ds.U+1:=(kA n r).2;rw[e2];show⟨_,m.lV ((RA _).fh _),λapB A E Q x=>?_⟩;have z:=110 (ai7 P apB A s λi=>us[i]?.ge .L) hm;dsimp only[Nu]at z;rw[k P]at z;have z:=110 z (D.CR.bn k2);unfold VA VB at z;rw[k1,ajf]at z;show sV _ z (λq h=>?_) x;(show aN (D.sr.mp h) λq x v=>?_;subst v);exact apu q (ya (ar.mem_toList.mp x)).2
def CS(s:ay)(h:lk ft a=G fn):∃fd B,(∀P,lD P a=G fd)/\fd.cX= .mS B/\yn a fn fd B:=by
 have hm:=iW h;show aN (51e8 (243 (VE s) hm)) λfd e z=>?_;have x:∀P,lD P a=G fd:=λP=>(110 (ai9 P s) hm).aV e;have b:=110 (aja s) hm;rw[e]at b;have r:fd.cX= .mS (VD fd):=ar.G.cF b;have g:CQ fd fn:= @fo _ (VC ..) (ba z).2;show⟨fd,_,x,r,λP=>?_,λh P A=>aje ?_ A,r,g.1,g.2.1,g.2.2.1,g.2.2.2.1,g.2.2.2.2.1,g.2.2.2.2.2.1,g.2.2.2.2.2.2.1,g.2.2.2.2.2.2.2.1,g.2.2.2.2.2.2.2.2.1,g.2.2.2.2.2.2.2.2.2.1,ajg s hm x g.2.2.2.2.2.2.2.2.2.2⟩
 ·exact ajd (x P)
 ·show aN (51e8 (243 (VE P) hm)) λk p z=>?_;rw[ar.G.cF ((x P).bi.aV p)];exact(ba z).1
set_option backward.match.sparseCases true
def VH(P:ay):nE.dJ (λp=>(uc 8e0 p.1).fN (·.yr)&&Th 8e0 p.1&&Cc 8e0 p.1)=true:=av
def ajh(P:ay):(nE.aj λp=>iH 8e0 7e2 "__getattribute__")=nE.aj (309 (G (.bJ "object.__getattribute__"))):=av
def aji(P:ay):(nE.aj λp=>iH 8e0 7e2 "__getattr__")=nE.aj (309 L):=av
def ajj(P:ay):(nE.aj λp=>iH 8e0 7e2 "__setattr__")=nE.aj (309 55e7):=av
def ajk(P:ay):(nE.aj λp=>(Ke.oq (kb p.1)).aj λn=>iH 8e0 7e2 4e6)=nE.aj λp=>(Ke.oq (kb p.1)).aj (309 L):=av
def ctM:D (I×al×D (I×I)):=ct.oq λp=>!p.2.1
def VI(P:ay):(ctM.aj λp=>p.2.2.aj λq=>(iH 8e0 7e2 (nm q.1),yp 8e0 (.N q.2)))=ctM.aj λp=>p.2.2.aj λq=>(G (47 q.2),G 47e2):=av
def VJ:ctM.dJ (λp=>(lk nE p.1).iq)=true:=av
def VK(h:lk nE C=G l):vN C:=by
 have hm:=iW h;have h1:∀P,(uc 8e0 C).fN (·.yr)=true/\Th 8e0 C=true/\Cc 8e0 C=true:=λP=>by
  have:=243 (VH P) hm;simp only[al.lb]at bb;exact⟨bb.1.1,bb.1.2,bb.2⟩
 show⟨λP=>?_,λP=>110 (ajh P) hm,λP=>110 (aji P) hm,λP=>110 (ajj P) hm,λP=>(h1 P).2.1,λP n s=>?_⟩
 ·have:=(h1 P).1;cases q:uc (KL P) C with
  |L=>rw[q]at bb;cases bb
  |G cd=>rw[q]at bb;exact⟨cd,H,bb⟩
 ·have h2:=110 (ajk P) hm;show D.gG.mp h2 n (D.rA.bn ⟨?_,s⟩);unfold kb at s;show aN (D.p8.mp (al.mB.mp s).1) λk x e=>?_;rw[<-I.fZ e];exact x
def yT(h:nJ C=G (false,ms)):(C,false,ms)∈ctM:=D.rA.bn ⟨iW h,H⟩
def VL(h:xG C n=G f):∃s,nJ C=G (false,s)/\lk s n=G f:=by
 (show aN (ar.k7.mp h) λx e h=>?_;obtain⟨b,s⟩:=x);cases b with
 |true=>exact nN h
 |false=>exact⟨s,e,h⟩
def ajl:nW:=by
 have hm:∀C n f,xG C n=G f->vN C:=λC n f h=>by
  show aN (VL h) λs e b=>?_;have:=243 VJ (yT e);show oE (ar.mT.mp bb) λl x=>?_;exact VK x
 show⟨λC n h=>?_,λC n f h=>⟨hm C n f h,⟨λP n f h=>?_⟩⟩⟩
 ·unfold kb at h;show aN (51e8 (48e3).2) λl e b=>?_;exact VK e
 ·show aN (VL h) λs e a=>?_;have h1:=110 (VI P) (yT e);have h2:=110 h1 (iW a);exact⟨bC kC.p7 h2,bC kC.snd h2⟩
def ajm:nm 166= "__init__" :=aq
set_option tactic.hygienic true in
theorem VM(h:nJ C=G (false,ms))(b:lk ms 166=G i):Te C i:=by
 have h1:=243 VJ (yT h);show oE (ar.mT.mp h1) λl x=>?_;have r:=D.rA.mp (yT h);have h2:∀P,Cc 8e0 C=true:=λP=>by
  have:=243 (VH P) (iW x);simp only[al.lb]at bb;exact bb.2
 have h3:∀P,iH 8e0 2e8 (nm 166)=G (47 i)/\yp 8e0 (.N i)=G 47e2:=λP=>by
  have h1:=110 (VI P) (yT h);have h2:=110 h1 (iW b);exact⟨bC kC.p7 h2,bC kC.snd h2⟩
 show⟨λP=>?_,h2,λP=>ajm▸(h3 P).1,λP=>(h3 P).2⟩;have s:=h2 P;unfold Cc at s;cases e:(KL P).bZ C with
 |L=>rw[e]at s;cases s
 |G o=>
  rw[e]at s;obtain(⟨oc,a,dt,sl⟩):=o;cases dt with
  |bj cd=>exact⟨oc,a,cd,sl,Tb e⟩
  |_=>exact bM s al.lK
set_option backward.match.sparseCases false
def l4:D I:=[38,51,63,75]
def ajn(P:ay):(l4.aj λC=>iH 8e0 2e8 "__init__")=l4.aj (309 (47 35)):=av
def ajo(P:ay):yp 8e0 (.N 35)=G 47e2:=av
def ajp(P:ay):(l4.aj λC=>iH 8e0 2e8 "__setattr__")=l4.aj (309 55e7):=av
def ajq(P:ay):(l4.aj λC=>iH 8e0 2e8 20e5)=l4.aj (309 L):=av
def ajr(P:ay):l4.dJ (λC=>(uc 8e0 C).fN (·.yr))=true:=av
def ajs(P:ay):(l4.aj λC=>iH 8e0 2e8 "__getattr__")=l4.aj (309 L):=av
def ajt(P:ay):(l4.aj λC=>iH 8e0 2e8 "__getattribute__")=l4.aj (309 (G (.bJ "BaseException.__getattribute__"))):=av
def VN(oC:af):refuseLoop oC "__setattr__" yJ=b9 ():=PySem.apu.store_Exception.passes oC
def aju(h:ai)(P:ay)(A:253 h):sB 38 h:=by
 have e:h.ao 38=G (uq i5 i5 38 37 [22e7] yJ true [] [.N 51,.N 63,.N 75] false L L (47 22) L (14 i5 196) (14 i5 204) 12e0 "Exception.__new__"):=pf A 38 _ av;show⟨⟨_,_,_,_,_,_,_,_,_,_,_,e,aq,aq,aq,aq,λoC=>by rw[VO];exact VN oC,2e6⟩,λoc x cd sl q=>?_⟩;rw[e]at q;cases q;exact⟨aq,aq,λa s=>by
  have:I.bY a 38=false:=by cases z:I.bY a 38 with|false=>rfl|true=>exact bM (I.fZ z) s
  rw[bb];simp[s]⟩
def Nv{C apC:aI}{nm q:am}{k0 k1 k2 k3 k5:12e4}(x:C≠38)(e:h.ao C=G (uq nm q C apC [32e7] (32e7::yJ) true [] [] false L L k0 k1 k2 k3 k5 "Exception.__new__")):sB C h:=by
 show⟨⟨_,_,_,_,_,_,_,_,_,_,_,e,av,av,av,av,λoC=>by rw[VO,VO];exact VN oC,21e5⟩,λoc b cd sl q=>?_⟩;rw[e]at q;cases q;clear e;show⟨av,av,λa s=>?_⟩;by_cases z:a=C
 ·subst z;rw[I.qJ];simp
 ·have:I.bY a C=false:=by cases app:I.bY a C with|false=>rfl|true=>exact bM (I.fZ app) z
  rw[bb];simp[s,z]
def ajv(h:nJ C=G (true,ms)):C∈l4:=by
 have h1:(C,true,ms)∈ct.oq (λp=>p.2.1):=D.rA.bn ⟨iW h,H⟩;have h2:(ct.oq (λp=>p.2.1)).aj (·.1)=l4:=av;rw[<-h2];exact D.ox (f:=(·.1)) h1
def ajw{C:I}(h:C∈l4):ur C:=by
 show⟨λs P A=>?_,λP=>110 (ajn P) h,ajo,λP=>110 (ajp P) h,λP=>110 (ajq P) h,λP=>?_,λP=>110 (ajs P) h,λP=>110 (ajt P) h⟩
 ·simp only[l4,D.eR,D.mn,mo]at h;rcases h with H|rfl|rfl|rfl
  ·exact aju s P A
  ·exact Nv (nm:=ql) (q:=ql) (apC:=50) (k0:=47 42) (k1:=L) (k2:=14 ql 225) (k3:=14 ql 233) (k5:=12e0) aq (pf A 51 _ av)
  ·exact Nv (nm:=qm) (q:=qm) (apC:=62) (k0:=47 54) (k1:=L) (k2:=14 qm 241) (k3:=14 qm 249) (k5:=12e0) aq (pf A 63 _ av)
  ·exact Nv (nm:=qn) (q:=qn) (apC:=74) (k0:=47 66) (k1:=L) (k2:=14 qn 257) (k3:=14 qn 265) (k5:=12e0) aq (pf A 75 _ av)
 ·have:=243 (ajr P) h;cases q:uc (KL P) C with
  |L=>rw[q]at bb;cases bb
  |G cd=>rw[q]at bb;exact⟨cd,H,bb⟩
def VP:vY:=λC h=>by
 (show aN (51e8 h) λs e h=>?_;obtain⟨b,x⟩:=s);cases b with
 |true=>exact ajw (ajv e)
 |false=>exact nF h
def ajx(h:∀P,lD P 35=G fd)(x:fd.cX= .mS B)(s:ay):M5 fd.bt B:=by
 have e:lD s 35=G (zN (dk 2 0) S6 (.L) (.ag S4 194) (.N 34)):=av;have:=(h s).bi.aV e;cases bb;have a:uJ (dk 2 0)=B:=by cases x
 subst a;exact⟨av,av,av,av,av⟩
section
variable{α β:Type}
def ajy(o:6e1)(r:54e4):h9 (R.ci o r)=R.ci o (h9 r):=by cases r<;>rfl
universe e
def ajz(r:3e2):q2 (mx r)=r:=by
 unfold q2 mx;cases r<;>simp[R.aF,R.ci,R.Y]
section
variable{d:I}{tk:Tk}{F:MS}
def Nw{p:Prop}(h:p->iI d tk F r):iI d tk F (r.ci [p]):=by
 have pp:∀{α β:Type} {x:Fx} {J:aW} {s:ae} {r:3e3} {br:17e8} {Q:12e2} {EE:0e5},11 (r.ci [p])->p:=λP=>(26e9).1 p (D.dQ ..);cases tk with
 |x e=>
  show⟨λk sc E l x J s Q EE Y m R P=>?_,λk sc apq E t aU W l x J s Q EE Y m hz n R P=>?_⟩
  ·have P:10 ((r.ci [p]).aF _):=P;rw[t6]at P;exact(h (pp P)).1 k sc E l x J s Q EE Y m R 26e3
  ·have P:64 (((r.ci [p]).aF _).aF _) RF:=P;rw[t6,t6]at P;exact(h (pp P)).2 k sc apq E t aU W l x J s Q EE Y m hz n R 26e3
 |t e=>
  intro k sc E l x J s Q EE Y m R P;have P:64 ((r.ci [p]).aF _) RB:=P;rw[t6]at P;exact(h (pp P)) k sc E l x J s Q EE Y m R 26e3
 |s ss=>
  show⟨λk sc S l x J s Q EE Y m hz n R P=>?_,λk sc apq B t b e h1 h2 x J s Q EE Y m hz n R P=>?_⟩
  ·exact(h (pp P)).1 k sc S l x J s Q EE Y m hz n R 26e3
  ·exact(h (pp P)).2 k sc apq B t b e h1 h2 x J s Q EE Y m hz n R 26e3
 |ss b=>
  intro k sc B l x J s Q EE Y m hz n R P;exact(h (pp P)) k sc B l x J s Q EE Y m hz n R 26e3
 |aX f as=>
  show⟨λx J s u us Q EE Y R C app P=>?_,λx J s Q EE P=>?_⟩
  ·have P:10 ((r.ci [p]).aF _):=P;rw[t6]at P;exact(h (pp P)).1 x J s u us Q EE Y R C app 26e3
  ·have P:10 ((r.ci [p]).aF _):=P;rw[t6]at P;exact(h (pp P)).2 x J s Q EE 26e3
 |gj A it i b=>
  intro k sc apq B h1 h2 h3 x dC aC apE s Q EE o wr Y m hz n R apv a b c P;rw[ajy]at P;exact(h (pp P)) k sc apq B h1 h2 h3 x dC aC apE s Q EE o wr Y m hz n R apv a b c 26e3
 |mt e A apr it i j=>
  intro k kl z V apq apA cs aU h1 h2 x dC aC h0 s Q o wr g Y m R apv a b c P;have apD:p:=by
   cases r with
   |aT a F ob=>
    cases a with
    |f q=>cases q with
     |next=>exact P.1 p (D.dQ ..)
     |bk v=>exact P.ak
    |v v=>exact P.ak
    |b v=>exact P.ak
   |a8 a F ob=>exact P.ak
   |no w=>exact P.ak
  show(h apD) k kl z V apq apA cs aU h1 h2 x dC aC h0 s Q o wr g Y m R apv a b c ?_;clear h;cases r with
  |aT a F ob=>
   cases a with
   |f q=>cases q with
    |next=>exact⟨λq apw=>P.1 q (54 apw),P.2⟩
    |bk v=>exact P.ak
   |v v=>exact P.ak
   |b v=>exact P.ak
  |a8 a F ob=>exact P.ak
  |no w=>exact P.ak
def VQ:iI d tk F 18e9:=by
 have:(R.no w:2e9)=R.ci [fR] 18e9:=H;rw[bb];exact Nw λh=>h.ak
def aw:PP:=λd tk O T bI=>∀o1 o2,iI d tk 29e4 (bI.mY o2 [])
def R.apG{α:Type}(o:2e1)(r:3e3):3e3:=match r with
 | .aT a F ob=> 20 a F.O F.T o ob
 | .a8 i F ob=> .a8 i ⟨F.O,F.T,o⟩ ob
 | .no w=> 18e9
def gP(R:160 (62 o)):160 (62 o'):=⟨R.d8,R.cU,R.O,R.nd,R.gy,R.up,R.bq,R.bI,R.hJ,R.b3,R.hj,R.gz,R.fx,R.dD,R.os,R.cW⟩
def ajA{α β:Type}{x:Fx}{J:aW}{s:ae}{r:3e3}{o:2e1}{br:17e8}{Q:12e2}{EE:0e5}(P:27e7):11 (r.apG o):=by
 cases r with
 |aT a F ob=>exact⟨P.1,λaC s' u R apv r=>P.2 aC s' u 26e4 apv r⟩
 |a8 i F ob=>exact⟨P.1,λaC s' u h R apv r=>P.2 aC s' u h 26e4 apv r⟩
 |no w=>exact P
def n4{α β:Type}{x:Fx}{J:aW}{s:ae}{r h:3e3}{o:2e1}{br:17e8}{Q:12e2}{EE:0e5}(P:27e7)(e:h=r.apG o):11 h:=e▸ajA P
def ajB{bI:fj}{O:1e0}{T:0e1}{o1 o2 apA o4:2e1}(h:iI d tk 29e4 (bI.mY o2 [])):iI d tk (62 apA) (bI.mY o4 []):=by
 cases tk with
 |x e=>
  show⟨λk sc E m x J s Q EE Y r R P=>h.1 k sc E m x J s Q EE Y r 26e4 (n4 (o:=o2) P ?_),λk sc apq E t aU apE m x J s Q EE Y r hz w R P=>h.2 k sc apq E t aU apE m x J s Q EE Y r hz w 26e4 (n4 (o:=o2) P ?_)⟩
  ·cases bI with
   |Y a ob p=>cases a<;>rfl
   |a8 i ob p=>rfl
  ·have A:∃n,t= .n n:=oR (C:=λl=>∃n,t= .n n) m λl l h=>Rd h λn l=>⟨n,H⟩;obtain⟨n,H⟩:=A;cases bI with
   |Y a ob p=>cases a<;>rfl
   |a8 i ob p=>rfl
 |t e=>
  intro k sc E m x J s Q EE Y r R P;show h k sc E m x J s Q EE Y r 26e4 (n4 (o:=o2) P ?_);cases bI with
  |Y a ob p=>cases a<;>rfl
  |a8 i ob p=>rfl
 |s ss=>
  show⟨λk sc S m x J s Q EE Y r hz w R P=>h.1 k sc S m x J s Q EE Y r hz w 26e4 (405 P),λk sc apq B t b e h1 h2 x J s Q EE Y r hz w R P=>h.2 k sc apq B t b e h1 h2 x J s Q EE Y r hz w 26e4 (405 P)⟩
 |ss b=>
  intro k sc B m x J s Q EE Y r hz w R P;exact h k sc B m x J s Q EE Y r hz w 26e4 (405 P)
 |aX f as=>
  show⟨λx J s u us Q EE Y R apx z P=>h.1 x J s u us Q EE Y 26e4 apx z (n4 (o:=o2) P ?_),λx J s Q EE P=>?_⟩
  ·cases bI with
   |Y a ob p=>cases a<;>rfl
   |a8 i ob p=>rfl
  ·have:=h.2 x J s Q EE (n4 (o:=o2) P (by
    cases bI with
    |Y a ob p=>cases a<;>rfl
    |a8 i ob p=>rfl))
   cases f with
   |aa v=>cases v<;>exact bb
   |Z i=>exact bb
   |_=>exact bb
 |gj apu it i b=>
  intro k sc apq B h1 h2 h3 x dC aC apr s Q EE app wr Y r hz w R apv a b c P;exact h k sc apq B h1 h2 h3 x dC aC apr s Q EE app wr Y r hz w 26e4 apv a b c (405 P)
 |mt e apu apz it i j=>
  intro k kl g apD apq apw cs aU h1 h2 x dC aC h0 s Q app wr W Y r R apv a b c P;show h k kl g apD apq apw cs aU h1 h2 x dC aC h0 s Q app wr W Y r 26e4 apv a b c ?_;clear h;cases bI with
  |Y a ob p=>
   cases a with
   |f q=>cases q with
    |next=>exact⟨P.1,λaC s' R apv=>P.2 aC s' 26e4 apv⟩
    |bk v=>exact P.ak
   |v v=>exact P.ak
   |b v=>exact P.ak
  |a8 a F ob=>exact P.ak
def VR(o:fj)(bG:2e1)(p:Prop):o.mY bG [p]=(o.mY bG []).ci [p]:=by cases o<;>rfl
universe e
def Ny:∀(l:1e0) (a o:aps),mu (l++[a]) l.U o=l++[o]
 | [],_,_=>rfl
 |b::l,a,o=>bC (b:: ·) (Ny l a o)
def Nz(l:1e0)(a:aps)(T bG):MS.dM ⟨l++[a],T,bG⟩ l.U=11e3:=by
 unfold MS.dM;rw[28e5,I.jj];rfl
def VS:kb 789 31=true/\kb 789 184=true:=aq
def ajC(P:PP)(d:I)(O:1e0)(v w:V)(T:0e1):apy P 12 (d+1) (22 772 [18e6,v,w]) (159 O [] T)= 124 (.v 0e6) (159 O [(31,v),(184,w)] T):=by
 have s:qC (159 O [] [(164,18e6),(31,v),(184,w)]) 18e6 31 v= .Y () (159 O [(31,v)] [(164,18e6),(31,v),(184,w)]):=by
  unfold qC;dsimp only;rw[Nz];dsimp only[gN];rw[VS.1];unfold MS.cN;rw[Ny];rfl
 have h:qC (159 O [(31,v)] [(164,18e6),(31,v),(184,w)]) 18e6 184 w= .Y () (159 O [(31,v),(184,w)] [(164,18e6),(31,v),(184,w)]):=by
  unfold qC;dsimp only;rw[Nz];dsimp only[gN];rw[VS.2];unfold MS.cN;rw[Ny];rfl
 have e1:apy P 12 (d+1) (22 772 [18e6,v,w]) (159 O [] T)=mx (((278 (m0 (278 (qC (159 O [] [(164,18e6),(31,v),(184,w)]) 18e6 31 v)))).aF λr F=>rK r F (apy P 10 d (.ss [26 184 184]) F)).aF λr bR=>gA r 130 λv=> .Y v ⟨bR.O,T,bR.bG⟩):=cI;have e2:apy P 10 d (.ss [26 184 184]) (159 O [(31,v)] [(164,18e6),(31,v),(184,w)])=(278 (m0 (278 (qC (159 O [(31,v)] [(164,18e6),(31,v),(184,w)]) 18e6 184 w)))).aF λr F=>rK r F (apy P 9 d (.ss []) F):=cI;rw[h]at e2;have e3:apy P 10 d (.ss [26 184 184]) (159 O [(31,v)] [(164,18e6),(31,v),(184,w)])= 57 (159 O [(31,v),(184,w)] [(164,18e6),(31,v),(184,w)]) []:=e2;rw[e1,s];generalize hr:apy P 10 d (.ss [.bz (.a (.l 164) 184) (.l 184)]) ⟨O++[.bv 789 [(31,v)]],[(164,.Z O.U),(31,v),(184,w)],[]⟩=r at e3;have e4:∀(apu:A->MS->2e9),(278 (m0 (278 (R.Y () (159 O [(31,v)] [(164,18e6),(31,v),(184,w)]))))).aF apu=278 (apu 24e4 (159 O [(31,v)] [(164,18e6),(31,v),(184,w)])):=λx=>rfl;rw[e4];refine mx ((278 (apy P 10 d (.ss [26 184 184]) _)).aF _)=_;rw[hr,e3];rfl
def ajD(P:ay):ft.dJ (λp=>(qF p.2.cX).iq||No P p.1 p.2)=true:=av
def ajE:ft.dJ (λp=>(qF p.2.cX).QA||340 1396)=true:=av
def VT{a:I}{fn:Fn}{F:MS}(h:lk ft a=G fn):kT F 26e0:=λP=>243 (ajb P) (iW h)
def VU{a:I}{q:al×D (I×I)}{F:MS}(h:nJ a=G q):kT F 26e0:=λP=>243 (ajc P) (iW h)
section
variable{ih:Ih}{d:I}{F:MS}
def VV(s:ay)(h:lk ft a=G fn)(e:qF fn.cX=L)(b:∀P,lD P a=G fd)(x:fd.cX= .mS B):fc 60 fd.bt (.b B fn.cX)=true:=by
 have h1:=243 (ajD s) (iW h);dsimp only at h1;rw[e]at h1;have h1:No s a fn=true:=h1;unfold No at h1;rw[b s]at h1;dsimp only at h1;rw[x]at h1;exact h1
def ajF(apz:14e3)(h:lk ft a=G fn)(e:qF fn.cX=L)(r:(as++39e1).U=fn.ps.U):
  JC (d+1) 26e0 as F (B5 F (ih (.ss fn.cX) ⟨F.O,fn.ps.fw (as++39e1),F.bG⟩)):=by
 intro x J s u us Q EE Y R m k P;show jz (CS x.w.bV h) λfd B b p apv=>?_;exact afz apv r (apz.b (VV x.w.bV h e b p) _) x J s u us Q EE Y R m k P
def yU(d:I):Prop:=∀v u bR,JC d (5 789) [v,29e8] bR (.Y (.Z bR.O.U) ⟨bR.O++[175 (31,v) (184,29e8)],bR.T,bR.bG⟩)
def ajG:uJ (eh 133)=[.pN (G (.jR (256 101 11 19) [yP,nL] [] (lq 11 96))) (lq 4 96)]:=av
def ajH:qF vc.cX=G (789,hX):=av
def ajI(apz:14e3)(i:yU d)(e:lk ft a=G fn)(r:qF fn.cX=G q):JC (d+1) 26e0 as F (Kq ih q.2 q.1 as F):=by
 intro x J s u us Q EE Y R j w P;have h:=243 ajE (iW e);dsimp only at h;rw[r]at h;cases I.fZ h;have:lk ft 1396=G vc:=av;cases e.bi.aV bb;cases r.bi.aV ajH;show jz (CS x.w.bV bb) λfd B m v apv=>?_;have p:lD x.w.bV 1396=G (zN (eh 133) wW (.L) (.ag gh 2135) (.N 1395)):=av;cases(m x.w.bV).bi.aV p;have b:uJ (eh 133)=B:=by cases v
 rw[ajG]at b;subst b;cases as with
 |aR=>exact P.ak
 |aQ k as=>cases as with
  |aR=>exact P.ak
  |aQ n as=>cases as with
   |aQ=>exact P.ak
   |aR=>exact aiz apv H av ⟨av,apz.x (k:=50) av⟩ av av av (VU (q:=(false,[(166,772),(242,779),(148,786)])) av) av av i x J s u us Q EE Y R j w P
def ajJ(apz:14e3)(m:dp=true->yU d)(b:lk ft a=G fn):JC (d+1) 26e0 as F (A2 ih dp fn as F):=by
 intro x J s u us Q EE Y R p r P;show fU P λk h=>?_;cases e:qF fn.cX with
 |L=>
  rw[e]at h;exact ajF apz b e (I.fZ k) x J s u us Q EE Y R p r h
 |G q=>
  rw[e]at h;exact fU h λhd n=>ajI apz (m hd) b e x J s u us Q EE Y R p r n
def ajK(apz:14e3)(p:nJ a=G q):JC (d+1) 26e0 as F (A3 ih a q as F):=by
 obtain⟨b,t⟩:=q;intro x J s u us Q EE Y R m k P;show kQ P (λe h=>?_) λe h=>eD h λi v c=>?_
 ·cases e;revert h;cases k with
  |aR=>exact λP=>P.ak
  |aQ r l=>cases l with
   |aQ=>exact λP=>P.ak
   |aR=>
    clear P;intro h;have j:lk ft 35=G Ql:=av;show jz (CS x.w.bV j) λfd B n w apv=>?_;exact ahV (VP a (by unfold xB;rw[p];rfl)) apv H (ajx n w x.w.bV) x J s u _ Q EE Y R m (265 r) h
 ·cases e;clear h;exact Tf (VM p v) (f:=λo F=>rQ ih (5 i) (o::as) F) (λo aS=>(apz (22 i (o::as)) aS).1) x J s u us Q EE Y R m k c
def VW{C:153 V}{Q:0e5}{EE:0e5}(P:10 (vl ih dp f as F))
  (h1:∀a fn,lk ft a=G fn->10 (A2 ih dp fn as F)->C 26e0) (h2:∀a q,nJ a=G q->10 (A3 ih a q as F)->C 26e0)
  (h3:∀i k n v,18e7=G (.cW k (.Z n))->as=[v]->10 (vk n k v F)->C 15e9):C f:=by
 cases f with
 |aa u=>
  have P:10 (A0 29e8 134 λa=>(Kl a).ak (gN (nJ a) 131 λq=>A3 ih a q as F) λfn=>A2 ih dp fn as F):=P;show RQ P λa e h=>?_;cases e;cases b:Kl a with
  |G fn=>rw[b]at h;exact h1 a fn b h
  |L=>rw[b]at h;exact eD h λq r m=>h2 a q r m
 |Z i=>
  clear h2 h1;have P:10 (gN 18e7 133 λo=>QB o as F):=P;exact eD P λo p h=>by
   cases o with
   |cW k w=>cases w with
    |Z n=>cases as with
     |aR=>exact h.ak
     |aQ v as=>cases as with
      |aR=>exact h3 i k n v p H h
      |aQ=>exact h.ak
    |_=>exact h.ak
   |_=>exact h.ak
 |_=>exact P.ak
def ajL(apz:14e3)(w:dp=true->yU d):JC (d+1) f as F (vl ih dp f as F)/\∀(x:Fx) (J:aW) (s:ae) (Q:0e5) (EE:0e5),10 (vl ih dp f as F)->kT F f:=
 ⟨λx J s u us Q EE Y R b p P=>VW (C:=λf=>17 f u->_) P (λa fn h P b=>ajJ apz w h x J s u us Q EE Y R b p P) (λa q h P b=>ajK apz h x J s u us Q EE Y R b p P) (λi k n v h e m b=>by subst e;exact aiJ h x J s u us Q EE Y R b p m) b,
 λx J s Q EE P=>VW P (λa fn h r=>VT h) (λa q h r=>VU h) λi k n v h r r=>⟨k,_,h⟩⟩
def ajM(apz:14e3)(h:dp=true->yU d):iI (d+1) (.aX f as) F (mx (vl ih dp f as F)):=by
 refine JC (d+1) f as F (q2 (mx _))/\∀(x:Fx) (J:aW) (s:ae) (Q:0e5) (EE:0e5),10 (q2 (mx (vl ih dp f as F)))->kT F f;rw[ajz];exact ajL apz h
def ajN(apz:14e3)(fz:al)(x:Fx):qX ih fz d x:=
 ahB (λf as F=>(apz (.aX f as) F).1) (λf as F J s Q EE h P=>(apz (.aX f as) F).2 x J s Q EE P)
universe e
def ajO(apz:fO ih (e+1))(hr:∀O v w T,ih (22 772 [18e6,v,w]) (159 O [] T)= 124 (.v 0e6) (159 O [(31,v),(184,w)] T)):yU (e+2):=by
 intro v u bR x J s r us Q EE Y R b h P;have a:nJ 789=G (false,[(166,772),(242,779),(148,786)]):=av;show Tf (VM a (i:=772) cI) (f:=λo F=>rQ ih (5 772) (o::[v,29e8]) F) (λo aS=>(apz (22 772 (o::[v,29e8])) aS).1) (F:=⟨bR.O,bR.T,[]⟩) x J s r us Q EE Y 26e4 b h ?_;refine 10 (Internal.R.ci [] ((q2 (ih (22 772 [.Z bR.O.U,v,29e8]) (159 bR.O [] bR.T))).aF _));rw[yA,hr];exact n4 (o:=[]) P H
def ajP{β:Type}{C:38e5}{l:2e1}{d:β}{f g:(Tk->al)->(Tk->1e0->0e1->fj)->2e1->β}(hd:C d)(h:∀q r o,C (f q r o))(s:∀q r o,C (g q r o)):C (QF l d f g):=ye hd λq o=>by
 cases q with
 |ed q r=>exact h q r o
 |cu q r=>exact s q r o
 |_=>exact hd
def hR:∀d n,fO (apy aw n d) d:=by
 intro d;induction d using I.strongRecOn with
 |ind d k=>
  intro n;induction n with
  |i4=>exact λtk F=>VQ
  |hG n b=>
   have h:∀tk F,iI d tk F (oo (apy aw n d) (d.cE L λd=>G (apy aw n d)) (I.g4 3 d) tk F):=by
    intro tk F;by_cases p:∃f as,tk= .aX f as
    ·(show qf p λf as m=>?_;try clear p;subst m);cases d with
     |i4=>exact VQ
     |hG d=>
      show ajM (k d 40e6 n) λhd=>?_;have h2:2<=d:=I.le_of_succ_le_succ (I.cz hd);clear hd;(show oE (⟨d-2,(I.ag1 h2).bi⟩:∃e,d=e+2) λe w=>?_;subst w);intro v u bR x J s l us Q EE Y R j i P;exact ajO (k (e+1) bN 12) (ajC aw e) v u bR x J s l us Q EE Y R j i P
    ·exact ai6 b ajl VP (λfz x=>ajN b fz x) (λf as e=>p ⟨f,as,e⟩) F
   clear b;intro tk F;show ajP (C:=iI d tk F) (h tk F) (λq r o=>?_) λq r o=>?_
   ·cases q tk with
    |true=>exact Eq.bn (bC (iI d tk F) (VR ..)) (Nw λa=>a _ _)
    |false=>exact h tk F
   ·cases q tk with
    |true=>exact Eq.bn (bC (iI d tk F) (VR ..)) (Nw λa=>a _ _ _ _)
    |false=>exact h tk F
def aps.az.fu(l:0e0)(t:al)(m:0e0)(u:al):(aps.az l t=aps.az m u)=(l=m/\t=u):=qV (400 ⟨a,b⟩)
def aps.bv.fu(C:aI)(d:0e1)(s:aI)(x:0e1):(aps.bv C d=aps.bv s x)=(C=s/\d=x):=qV (400 ⟨a,b⟩)
def aps.a8.fu(C:aI)(d:0e1)(s:aI)(x:0e1):(aps.a8 C d=aps.a8 s x)=(C=s/\d=x):=qV (400 ⟨a,b⟩)
def aps.cW.fu(k i s x:V):(aps.cW k i=aps.cW s x)=(k=s/\i=x):=qV (400 ⟨a,b⟩)
def aps.eF.fu(l m:4e9):(aps.eF l=aps.eF m)=(l=m):=55e5
def aps.au.fu(l m:0e0):(aps.au l=aps.au m)=(l=m):=55e5
def aps.bw.fu(l m:5e6):(aps.bw l=aps.bw m)=(l=m):=55e5
mutual
def cK(f:I->I):V->V
 | .X l=> .X (bQ f l)
 | .ad l t=> .ad (bQ f l) t
 | .Z i=> .Z (f i)
 | .aa v=> .aa v
 | .bp b t=> .bp b t
 | .y i t=> .y i t
 | .ag s=> .ag s
 | .ch b=> .ch b
 | .ei b=> .ei b
def bQ(f:I->I):D V->D V
 | []=>[]
 |v::l=>cK f v::bQ f l
end
def f9(f:I->I):aps->aps
 | .az l t=> .az (bQ f l) t
 | .au l=> .au (bQ f l)
 | .bw l=> .bw (320 (p.1,71 p.2))
 | .bv C d=> 113 (d.aj λp=>(p.1,71 p.2))
 | .eF b=> .eF b
 | .cW k i=> .cW (71 k) (71 i)
 | .a8 C d=> .a8 C (d.aj λp=>(p.1,71 p.2))
def lE(f:I->I):∀l,bQ f l=l.aj (cK f)
 | []=>rfl
 |v::l=>bC (15e3:: ·) (lE f l)
def CT(f:I->I)(l:0e0):(bQ f l).U=l.U:=by rw[lE,D.fq]
def ajQ(f:I->I)(l:0e0):(bQ f l).er=bQ f l.er:=by rw[lE,lE,D.Mq]
section
variable{J kU:aW}{h:ai}{f:I->I}
set_option tactic.hygienic true in
theorem sD(hm:∀(i:I) p,J[f i]? =5e1->kU[i]? =5e1)(m:∀a,68 kU->14e2):∀{u:af},145 15e3->RV kU h v u:=by
 induction v using V.pd (KT:=λl=>∀us,cx J h (bQ f l) us->cx kU h l us)with
 |aa v=>exact λr=>tI.cE r 14e9
 |bp b t=>exact λr=>KQ.cE r (.bp ..)
 |y i t=>exact λr=>vw.cE r λe=> .y ..
 |ag s=>exact λr=>Ri.cE r λe=> .ag ..
 |ch b=>exact λr=>xT.cE r λe x=> .ch _ _ x
 |X l ih=>exact λr=>KR.cE r λa aP o x k=> .X _ _ _ o (CT f l▸x) (ih _ k)
 |ad l t ih=>exact λr=>Bp.cE r λa aP d no x k=> .ad _ _ _ _ d (λq=>no (m a q)) (CT f l▸x) (ih _ k)
 |ei b=>exact λr=>Rj.cE r λa c no x=> .ei _ _ c (λq=>no (m a q)) x
 |Z i=>exact λr=>mD.cE r λp w=> .Z _ p (hm _ _ w)
 |aR=>rename_i r;exact cJ.KN r .aR
 |aQ v l j n=>rename_i r;exact cJ.KP r λe e a b=> .aQ (j a) (n _ b)
def cJ.NA{α s β:Type}{p:17e7}{q:s->β->Prop}{g:s->α}(e:∀a b,p (g a) b->q a b):∀{l:D s} {m:D β},cJ p (l.aj g) m->cJ q l m:=by
 intro l;induction l with
 |aR=>exact λr=>r.KN .aR
 |aQ a l ih=>exact λr=>r.KP λh h x app=> .aQ (e _ _ x) (ih app)
def VX(hm:∀(i:I) p,J[f i]? =5e1->kU[i]? =5e1)(x:∀a,68 kU->14e2)(r:82 (bQ f l)):cx kU h l us:=cJ.NA (λs s=>sD hm x) (lE f l▸r)
def VY{apv:Type}{g:38e8}(hm:∀(i:I) p,J[f i]? =5e1->kU[i]? =5e1)(x:∀a,68 kU->14e2){l:5e6}{es:31e6}:RK g J h (320 (p.1,71 p.2)) es->RK g kU h l es:=cJ.NA λs s r=>⟨r.1,sD hm x r.2⟩
def VZ(hm:∀(i:I) p,J[f i]? =5e1->kU[i]? =5e1)(x:∀a,68 kU->14e2):lu J h (320 (p.1,71 p.2)) es->lu kU h l es:=cJ.NA λs s r=>⟨r.1,sD hm x r.2⟩
def ajR{p:9e3}(hm:∀(i:I) p,J[f i]? =5e1->kU[i]? =5e1)(s:∀a,68 kU->14e2)(r:RO w J h p (f9 f o)):RO w kU h p o:=by
 cases o with
 |az l t=>
  (show gp r λa b aP c d=>?_;try clear r);exact⟨a,by rwa[CT]at b,aP,c,VX hm s d⟩
 |au l=>
  (show gp r λa b aP c d=>?_;try clear r);rw[ajQ]at d;exact⟨a,by rwa[CT]at b,aP,c,VX hm s d⟩
 |bw l=>
  (show gp r λa b ob c d=>?_;try clear r);show⟨a,by rwa[D.fq]at b,ob,c,?_⟩;rcases d with⟨bL,d,e⟩|⟨bL,d,e⟩
  ·exact .a4 ⟨bL,d,VY hm s e⟩
  ·exact .aE ⟨bL,d,VY hm s e⟩
 |bv C dd=>
  obtain(⟨a,x,es,n,sl,b,c,e,g⟩):=r;exact⟨by rwa[D.fq]at a,x,es,n,sl,b,c,e,VZ hm s g⟩
 |eF b=>exact r
 |cW k i=>
  obtain(⟨fd,c1,c2,u1,u2,a,b,c,d,e,g,i⟩):=r;exact⟨fd,c1,c2,u1,u2,a,b,c,d,e,sD hm s g,sD hm s i⟩
 |a8 C dd=>
  obtain(⟨a,x,aD,es,n,vs,sl,b,c,e,g,i,j⟩):=r;exact⟨by rwa[D.fq]at a,x,aD,es,n,vs,sl,b,c,e,VZ hm s g,i,j⟩
universe e
mutual
def dG:V->V
 | .X l=> .X (ko l)
 | .ad l _=> .ad (ko l) true
 | .Z i=> .Z i
 | .aa v=> .aa v
 | .bp b _=> .bp b true
 | .y i _=> .y i true
 | .ag s=> .ag s
 | .ch b=> .ch b
 | .ei b=> .ei b
def ko:D V->D V
 | []=>[]
 |v::l=>dG v::ko l
end
def yV:∀l,ko l=l.aj dG
 | []=>rfl
 |v::l=>bC (dG v:: ·) (yV l)
def v6(l:0e0):(ko l).U=l.U:=by rw[yV,D.fq]
def eI:aps->aps
 | .az l _=> 37 (ko l)
 | .au l=> 37 (ko l.er)
 | .bw l=> .bw (320 (dG p.1,dG p.2))
 | .bv C d=> 113 (d.aj λp=>(p.1,dG p.2))
 | .eF b=> .eF b
 | .cW k i=> .cW (dG k) (dG i)
 | .a8 C d=> .a8 C (d.aj λp=>(p.1,dG p.2))
section
variable{J:aW}{h:ai}
def ajS(r:22e2):145 (dG v):=by
 show RV.pd (motive_1:=λv u e=>145 (dG v)) (KT:=λl us e=>82 (ko l)) ?_ ?_ ?_ ?_ ?_ ?_ ?_ ?_ ?_ ?_ ?_ r
 ·exact λv=> .aa v
 ·exact λb t=> .bp ..
 ·exact λi t tk=> .y ..
 ·exact λs tk=> .ag ..
 ·exact λb tk x=> .ch _ _ x
 ·exact λl a aP m x e ih=> .X _ _ _ m (by rw[v6];exact x) ih
 ·exact λl t a aP w no x e ih=> .ad _ _ _ _ w no (by rw[v6];exact x) ih
 ·exact λb a n no x=> .ei _ _ n no x
 ·exact λi p k=> .Z _ _ k
 ·exact .aR
 ·exact λe e a b=> .aQ a b
set_option tactic.hygienic true in
theorem ajT:∀{u:af},145 (dG v)->22e2:=by
 induction v using V.pd (KT:=λl=>∀us,cx J h (ko l) us->cx J h l us)with
 |aa v=>exact λr=>tI.cE r 14e9
 |bp b t=>exact λr=>KQ.cE r (.bp ..)
 |y i t=>exact λr=>vw.cE r λe=> .y ..
 |ag s=>exact λr=>Ri.cE r λe=> .ag ..
 |ch b=>exact λr=>xT.cE r λe x=> .ch _ _ x
 |X l ih=>exact λr=>KR.cE r λa aP q x k=> .X _ _ _ q (v6 l▸x) (ih _ k)
 |ad l t ih=>exact λr=>Bp.cE r λa aP o no x k=> .ad _ _ _ _ o no (v6 l▸x) (ih _ k)
 |ei b=>exact λr=>Rj.cE r λa j no x=> .ei _ _ j no x
 |Z i=>exact λr=>mD.cE r λp n=> .Z _ p n
 |aR=>rename_i r;exact cJ.KN r .aR
 |aQ v l w m=>rename_i r;exact cJ.KP r λe e a b=> .aQ (w a) (m _ b)
def o6(e:dG v=dG v')(r:22e2):145 v':=ajT (e▸ajS r)
def cJ.fE{α β γ:Type}{p:17e7}{g:α->γ}(h:∀a s b,g a=g s->p a b->p s b){l:8e4}{m:D β}(r:cJ p l m):∀{l':8e4},l.aj g=l'.aj g->cJ p l' m:=by
 induction r with
 |aR=>exact λ{l'} e=>match l' with| []=> .aR
 |aQ a _ ih=>exact λ{l'} e=>match l' with|_::_=> .aQ (h _ _ _ (D.aQ.cF e).1 a) (ih (D.aQ.cF e).2)
def v7{l s:0e0}{us:2e4}(e:ko l=ko s)(r:82 l):82 s:=cJ.fE (p:=RV J h) (g:=dG) (λx x x e r=>o6 e r) r ((yV l).bi.aV (e.aV (yV s)))
def ajU(a:K)(k s:V)(e:dG k=dG s):tJ a k->tJ a s:=by
 rintro⟨t,H⟩;cases s with
 |y i t=>cases e;exact⟨t,H⟩
 |_=>exact nomatch e
def ajV(a:am)(k s:V)(e:dG k=dG s):tK a k->tK a s:=by
 rintro H;cases s with
 |ag=>cases e;rfl
 |_=>exact nomatch e
def V0{apv:Type}{f:38e8}(m:∀a k b,dG k=dG b->f a k->f a b){l x:5e6}{es:31e6}(e:(320 (dG p.1,dG p.2))=(x.aj λp=>(dG p.1,dG p.2)))(r:RK f J h l es):RK f J h x es:=
 r.fE (λs s s e r=>⟨m _ _ _ (bC (·.1) e) r.1,o6 (bC (·.2) e) r.2⟩) e
def V1{l s:0e1}{es:26e2}(e:(320 (p.1,dG p.2))=(s.aj λp=>(p.1,dG p.2)))(r:lu J h l es):lu J h s es:=
 r.fE (λa b x e r=>⟨(bC (·.1) e:a.1=b.1)▸r.1,o6 (bC (·.2) e) r.2⟩) e
def NB{α β:Type}{f:α->β}{l s:8e4}(e:l.aj f=s.aj f):l.U=s.U:=by
 have:=bC D.U e;simpa using bb
def V2:aps->37e2
 | .az l _=>G l
 | .au l=>G l.er
 |_=>L
def V3(e:V2 o=G l):RO w J h p o ↔ (p.2=[]/\l.U<=16777216/\∃aP,h.j8 p.1 32e4/\cx J h l aP):=by
 cases o with
 |az=>
  cases ar.G.cF e;exact Iff.H
 |au=>
  cases ar.G.cF e;refine(_/\_/\_) ↔ _;rw[D.lx]
 |_=>exact 18e0
def V4(e:eI o= 37 l):∃l',V2 o=G l'/\ko l'=l:=by
 cases o with
 |az=>exact⟨_,H,(Eq.mp (aps.az.fu ..) e).1⟩
 |au=>exact⟨_,H,(Eq.mp (aps.az.fu ..) e).1⟩
 |_=>cases e
def V5(e:eI o= 37 l)(j:eI o'= 37 l)(r:RO w J h p o):RO w J h p o':=by
 show aN (V4 e) λa n x=>?_;show aN (V4 j) λb q s=>?_;show gp ((V3 n).mp r) λi k aP v u=>?_;have m:a.U=b.U:=by
  have:=bC D.U (x.aV s.bi);rwa[v6,v6]at bb
 exact(V3 q).bn ⟨i,m▸k,aP,v,v7 (x.aV s.bi) u⟩
def V6{p:9e3}(e:eI o=eI o')(r:RO w J h p o):RO w J h p o':=by
 cases o with
 |az l t=>exact V5 H (e.bi.aV H) r
 |au l=>exact V5 H (e.bi.aV H) r
 |bw l=>
  cases o' with
  |bw l'=>
   have e:=Eq.mp (aps.bw.fu ..) e;(show gp r λa b ob c d=>?_;try clear r);show⟨a,NB e▸b,ob,c,?_⟩;rcases d with⟨bL,d,q⟩|⟨bL,d,q⟩
   ·exact .a4 ⟨bL,d,V0 (f:=tJ) ajU e q⟩
   ·exact .aE ⟨bL,d,V0 (f:=tK) ajV e q⟩
  |_=>cases e
 |bv C dd=>
  cases o' with
  |bv m v=>
   (show oA (Eq.mp (aps.bv.fu ..) e) λs u=>?_;subst s);obtain(⟨a,x,es,n,sl,b,c,q,g⟩):=r;exact⟨NB u▸a,x,es,n,sl,b,c,q,V1 u g⟩
  |_=>cases e
 |eF b=>
  cases o' with
  |eF b'=>exact Eq.mp (aps.eF.fu ..) e▸r
  |_=>cases e
 |cW k i=>
  cases o' with
  |cW app z=>
   have e:=Eq.mp (aps.cW.fu ..) e;obtain(⟨fd,c1,c2,u1,u2,a,b,c,d,q,g,i⟩):=r;exact⟨fd,c1,c2,u1,u2,a,b,c,d,q,o6 e.1 g,o6 e.2 i⟩
  |_=>cases e
 |a8 C dd=>
  cases o' with
  |a8 m v=>
   (show oA (Eq.mp (aps.a8.fu ..) e) λs u=>?_;subst s);obtain(⟨a,x,aD,es,n,vs,sl,b,c,q,g,i,j⟩):=r;exact⟨NB u▸a,x,aD,es,n,vs,sl,b,c,q,V1 u g,i,j⟩
  |_=>cases e
universe e
structure kp(f:I->I)(O eV:D aps)(T hP:D (I×V)):Prop where
 Z:∀(i:I) o,eV[i]? =G o->∃o2,O[f i]? =G o2/\eI o2=eI (f9 f o)
 bI:∀i,eV.U<=i->O.U<=f i
 cF:∀i j,i<eV.U->j<eV.U->f i=f j->i=j
 T:∀k v,lk hP k=G v->∃v2,lk T k=G v2/\dG v2=dG (cK f v)
def mK(f:I->I)(m:I)(J:aW):aW:=(D.dS m).aj λi=>(J[f i]?).ge (0,[])
section
variable{x:Fx}{J:aW}{O eV:D aps}{T hP:D (I×V)}{bG:D cq}{s:ae}{f:I->I}
def ajW(h:i<m):(mK f m J)[i]? =G ((J[f i]?).ge (0,[])):=by
 unfold mK;rw[D.nY,D.ut h];rfl
def CU:(mK f m J).U=m:=by unfold mK;simp
def kp.lt(r:kp f O eV T hP)(h:i<eV.U):f i<O.U:=
 let⟨_,e,_⟩:=r.Z i _ (D.ic h)
 (D.gM.mp e).1
def kp.dM(r:kp f O eV T hP)(s:J.U=O.U)(h:i<eV.U):(mK f eV.U J)[i]? =J[f i]? :=by
 rw[ajW h,D.ic (s▸r.lt h)];rfl
def kp.fwd(r:kp f O eV T hP)(s:J.U=O.U)(i:I)(p:9e3)(e:J[f i]? =5e1):(mK f eV.U J)[i]? =5e1:=by
 by_cases h:i<eV.U
 ·rw[r.dM s h];exact e
 ·have:=(117 e);have:=r.bI i (I.dv.mp h);lia
def kp.bwd(r:kp f O eV T hP)(s:J.U=O.U)(e:(mK f eV.U J)[i]? =5e1):J[f i]? =5e1:=by
 have h:=(117 e);rw[CU]at h;rw[<-r.dM s h];exact e
def kp.d3(r:kp f O eV T hP)(s:J.U=O.U)(a:aI)(h:68 (mK f eV.U J)):14e2:=by
 (show aN h λp b x=>?_;try clear h);show oE (D.V7 b) λi e=>?_;exact⟨p,D.ja (r.bwd s e),x⟩
def aK.o8(R:160 (62 bG))(r:kp f O eV T hP):aK x (mK f eV.U J) ⟨eV,hP,bG⟩ s:=by
 have w:J.U=O.U:=R.cU;have g:=r.fwd w;have n:=r.d3 w;show⟨R.d8,CU,λi o p e1 e2=>?_,?_,λa h=>R.gy a (n a h),λa h=>R.up a (n a h),⟨?_,λk v a b=>?_⟩,λa l h=>R.bI a l (n a h),R.hJ,R.b3,R.hj,R.gz,λa l=>⟨(121 l).1,λh=>(121 l).2 (n a h)⟩,R.dD,R.os,R.cW⟩
 ·show aN (r.Z i o e1) λo2 g1 g2=>?_;exact ajR g n (V6 g2 (42 _ g1 (r.bwd w e2)))
 ·rw[D.dT,D.yf];show⟨λp apq=>?_,?_⟩
  ·show oE (D.V7 apq) λi d=>?_;have:=R.nd;rw[D.dT,D.yf]at bb;exact bb.1 p (D.ja (r.bwd w d))
  ·rw[D.Sj];intro i j d app apw a l b S e;subst e;have apA:=r.bwd w (D.ic d);have W:=r.bwd w (D.ic app);have:=R.sg apA W l S;rw[CU]at d app;have:=r.cF i j d app bb;lia
 ·obtain⟨m,V,P⟩:=R.bq.iN;exact⟨m,V,λk v a b=>(by show aN (r.T k v b) λv2 z t=>?_;exact(by show aN (P k _ a z) λu e q=>?_;exact⟨u,e,sD g n (o6 t q)⟩))⟩
 ·show aN (r.T k v b) λv2 z t=>?_;obtain(⟨c,u,e1,e2,e3,e4⟩):=200 k _ z;exact⟨c,u,e1,e2,sD g n (o6 t e3),λh=>e4 (n c h)⟩
def kp.split(r:kp f O eV T hP)(b:(l0++aC).U=O.U)(n:l0.U=apC)(v:∀i,i<apC->f i=i)(w:apC<=eV.U):
  ∃m,mK f eV.U (l0++aC)=l0++m/\∀a,68 m->68 aC:=by
 show⟨(mK f eV.U (l0++aC)).fh apC,?_,λa h=>?_⟩
 ·have:(mK f eV.U (l0++aC)).fG apC=l0:=by
   show D.V8 λi=>?_;by_cases s:i<apC
   ·rw[D.NC s,r.dM b (I.mF s w),v i s,D.kO (n▸s)]
   ·rw[D.q4 (by rw[D.qQ];lia),D.q4 bN]
  have e:=D.Jx apC (mK f eV.U (l0++aC));rw[bb]at e;exact e.bi
 ·(show aN h λp l u=>?_;try clear h);show oE (D.V7 l) λj x=>?_;rw[D.V9]at x;have e:=r.bwd b x;have k:=(117 x);rw[CU]at k;have:apC<=f (apC+j):=by
   show I.dv.mp λq=>?_;have h1:=v _ q;have:=r.cF _ _ (I.mF q w) k h1;lia
  rw[D.lA (by exact yo n bb)]at e;exact⟨p,D.ja e,u⟩
def Kp.less(apv:56 l0 x h h')(s:∀a,68 ajX->68 aC):Kp l0 ajX x h h':=⟨apv.bS,apv.js,apv.iV,apv.g5,λa q=>apv.fk a (s a q)⟩
universe e
section
variable{α β:Type}
def CV(x:Fx)(J:aW)(h0:ai)(r:3e3)(br:17e8)(Q:12e2)(EE:0e5):Prop:=match r with
 | .aT a F _=>∀aC s' u,206 F->56 J x h0 s'.M->br (J++aC) s'.M a u->Q u s'
 | .a8 i F _=>∀aC s' u,xZ J F i->206 (4 F.O F.bG)->56 J x h0 s'.M->RV (J++aC) s'.M 15e9 u->EE u s'
 | .no _=>fR
def aH.toB{br:17e8}{Q:12e2}{EE:0e5}(P:27e7):CV x J s.M r br Q EE:=by
 cases r with
 |aT a F ob=>exact P.2
 |a8 i F ob=>exact P.2
 |no w=>exact P
universe e
structure gb(apC:I)(O eV:D aps)(T hP:D (I×V))(f:I->I):Prop where
 o8:kp f O eV T hP
 fA:∀i,i<apC->f i=i
 le:apC<=eV.U
def gb.sC{apC:I}{O eV:1e0}{T hP:0e1}{f:I->I}(r:gb apC O eV T hP f){bG:2e1}(k:l0.U=apC)(R:165 l0 aC (62 bG) s)(apv:56 l0 x h0 s.M):
  ∃a,165 l0 a ⟨eV,hP,bG⟩ s/\Kp l0 a x h0 s.M/\∀v u,RV (l0++aC) s.M 15e3 u->RV (l0++a) s.M v u:=by
 show aN (r.o8.split R.cU k r.fA r.le) λa e p=>?_;have b:=R.o8 r.o8;rw[e]at b;show⟨a,b,apv.less p,λv u q=>?_⟩;have:=sD (f:=f) (J:=l0++aC) (kU:=mK f eV.U (l0++aC)) (h:=s.M) (r.o8.fwd R.cU) (r.o8.d3 R.cU) q;rwa[e]at bb
def ajY(d:I)(h:cD)(apq:PySem.a0)(B:11e1)(apC:I)(F:MS)(bI:2e9):Prop:=
 ∀(x:Fx) (J aC:aW) (h0:ai) (s:ae) (Q:34e5) (EE:0e5),3e6->x.ab.bt=h->x.fz=false->pU 3e0 x.A x.ab EE->J.U=apC->293 F s->56 J x h0 s.M->CV x J h0 bI RF Q EE->
  e7 3e0 x.A (.DM apq B [] x.ab) (367 f (zy 3e0 x.A x.ab EE e s')) s
def n5(d:I)(t:apw)(b:15e5)(apC:I)(F:MS)(bI:2e9):Prop:=∀k sc apq B,fc k sc (.t apq t)=true->fc k sc (.b B b)=true->ajY d sc apq B apC F bI
section
variable{d apC:I}{t:apw}{b:D Internal.S}{F aS du:MS}{fL:D aps}{gc:D (I×V)}{Wa:D cq}{f:I->I}{bI:R A}{q5 CW:D Prop}
def Kp.oN(a:Kp l0 m1 x h0 h1)(b:Kp (l0++m1) m2 x h1 h2):Kp l0 (m1++m2) x h0 h2:=a.aV b
def ND{c:al}{k:I}{e:cD}{apq:PySem.a0}(b:iI d (.t t) F (.aT (.b c) aS q5))(r:∀p∈q5,p)(m:fc k e (.t apq t)=true){x:Fx}{J:aW}{s:ae}(Y:3e6)(n:x.ab.bt=e)(q:0e9){E:0e5}:
  aM 3e0 x.A (sU apq x.ab (234 apq)) (λw s1=>w=c/\∃h,165 J h aS s1/\69 h s1.M) E s:=by
 show b k e apq m x J s _ _ Y n q ?_;refine aH x J s (.aT c aS (q5++[])) RB _ _;rw[D.dZ];exact⟨r,λh s1 u a v r1=>⟨Eq.bi r1,h,a,v⟩⟩
def ajZ(R:iI d (.t t) F (.aT 6e7 aS q5))(S:∀p∈q5,p)(o:iI d 12e5 aS (57 du CW))(oB:∀p∈CW,p)(apA:gb apC du.O fL du.T gc f)(hL:∀Wa,n5 d t b apC ⟨fL,gc,Wa⟩ bI):n5 d t b apC F bI:=by
 intro k sc apq B h1 h2 x J aC h0 s Q EE Y n hz V v z apv P;show zF ?_;show eW (ND (E:=λh h=>fR) R S h1 Y n z) ?_ 50e6;rintro c s1 ⟨H,m,g,j⟩;show eW (o k sc B h2 x (J++aC++m) s1 (λfl e=>fl= .bA/\∃m2,aK x (J++aC++m++m2) du e/\Kp (J++aC++m) m2 x s1.M e.M) (λh h=>fR) Y n hz pU.never g ⟨oB,λm2 e u a r r2=>?_⟩) ?_ 50e6
 ·cases r2;exact⟨H,m2,a,r⟩
 ·rintro fl e ⟨H,m2,a,r⟩;have KK:=apv.oN (j.oN r);rw[D.eO,D.eO]at a;obtain⟨fD,gQ,w⟩:=du;show dV (apA.sC v a KK) λapp l i h=>?_;exact hL w k sc apq B h1 h2 x J app h0 e Q EE Y n hz V v l i P
def aj0(a:iI d (.t t) F (.aT 1e9 aS q5))(r:∀p∈q5,p):n5 d t b apC F (57 aS []):=by
 intro k sc apq B h1 h2 x J aC h0 s Q EE Y m hz u i v apv P;show zF ?_;show eW (ND (E:=λh h=>fR) a r h1 Y m v) ?_ 50e6;rintro c s1 ⟨H,w,e,n⟩;rw[D.eO]at e;exact P _ s1 .bA e (apv.oN n) .bA
def aj1{i j:I}(apw:iI d (.t t) F (.aT 6e7 aS q5))(apD:∀p∈q5,p)(z:iI d 12e5 aS (.a8 i du CW))(oB:∀p∈CW,p)(apE:gb apC du.O fL [] [] f)(A:f j=i)(apx:apC<=j)(S:∃C dd,fL[j]? =G (.a8 C dd))(T:0e1):n5 d t b apC F (.a8 j ⟨fL,T,du.bG⟩ []):=by
 intro k sc apq B h1 h2 x J aC h0 s Q EE Y a hz r R apA apv P;show zF ?_;show eW (ND (E:=λh h=>fR) apw apD h1 Y a apA) ?_ 50e6;rintro c s1 ⟨H,w,W,l⟩;show eW (z k sc B h2 x (J++aC++w) s1 (λh h=>fR) EE Y a hz r W ⟨oB,λm2 app u apu e n r2=>?_⟩) 50e6 r;have KK:=apv.oN (l.oN n);rw[D.eO,D.eO]at e r2;obtain⟨fD,gQ,apr⟩:=du;show dV (apE.sC R e KK) λg o v m=>?_;exact P g app u ⟨bN,S⟩ o v (m (.Z j) u (by rw[show 71 (.Z j)= .Z (f j)from H,A];exact r2))
def aj2(h:∀o1 o2,n5 d t b O.U 29e4 (o.mY o2 [])):aw d (.s (.lO t b)) O T o:=by
 have cR:∀o1 o2 k sc apq B,fc k sc (.t apq t)=true->fc k sc (.b B b)=true->JW d sc apq B 29e4 (o.mY o2 []):=by
  intro o1 o2 k sc apq B h1 h2 x J s Q EE Y m hz v p P;have n:165 J [] 29e4 s:=by rw[D.dZ];exact p
  exact h o1 o2 k sc apq B h1 h2 x J [] s.M s Q EE Y m hz v p.cU n (Kp.b8 ..) P.toB
 intro o1 o2;show⟨λk sc S r=>?_,λk sc apq B t' b' e h1 h2=>by cases e;exact cR o1 o2 k sc apq B h1 h2⟩;cases k with
 |i4=>cases r
 |hG k=>
  exact Q4 r λa a a a h=>kg 7e5 (TF (cR o1 o2 k sc _ _ 28e0 31e7))
universe e
def v8(f:I->I):A->A
 | .v v=> .v 15e3
 | .b b=> .b b
 | .f .bA=> 24e4
 | .f (.bk v)=> 105 15e3
section
variable{d apC:I}{O fD fL:D aps}{T gQ gc:D (I×V)}{o1 o2:D cq}{f:I->I}{ob:D Prop}
def gb.post{α β:Type}{a a3:α}(n:gb O.U fD fL gQ gc f)(w:33e3){x:Fx}{J:aW}{s:ae}{br:17e8}{Q:12e2}{EE:0e5}(e:J.U=O.U)
  (aj3:∀{l l':aW} {h:ai} {u:β},(∀v u,RV l h 15e3 u->RV l' h v u)->br l h a u->br l' h a3 u) {o4:2e1} (P:11 (20 a3 fL gc o4 [])):11 (20 a fD gQ o2 ob):=
 ⟨w,λaC s' u i apv r=>by
  show dV (n.sC e i apv) λm k q b=>?_
  exact P.2 m s' u (gP k) q (aj3 b r)⟩
def aj4:∀{l l':aW} {h:ai} {u:af},(∀v u,RV l h 15e3 u->RV l' h v u)->RV l h 15e3 u->RV l' h v u:=λs r=>s _ _ r
def Wb:∀{l l':aW} {h:ai} {u:iK},(∀v u,RV l h 15e3 u->RV l' h v u)->RF l h (v8 f a) u->RF l' h a u:=λs r=>by
 cases a with
 |v v=>cases r
 |b b=>cases r
 |f q=>
  cases q with
  |next=>cases r;exact .bA
  |bk v=>
   have r2:RF _ _ (105 15e3) _:=r;clear r;cases r2 with
   |bk r3=>exact .bk (s _ _ r3)
def Wc{g:V}{as:0e0}{v:V}(h:iI d 35e8 29e4 (20 (.v 15e3) fD gQ o2 ob))(b:33e3)(n:gb O.U fD fL gQ gc f)(e:kT (62 []) g):122 d 35e8 O T v fL gc:=by
 intro m o4;show⟨λx J s u us Q EE Y a r k P=>h.1 x J s u us Q EE Y (gP a) r k ?_,λx J s Q EE P=>?_⟩
 ·have P:10 (20 v fL gc o4 []):=P;clear h;refine 10 (20 15e3 fD gQ o2 (ob++[]));rw[D.dZ];exact n.post b a.cU aj4 P
 ·cases g with
  |aa v=>cases v<;>exact e
  |Z i=>exact e
  |_=>exact e
def aj5{b:15e5}{a:A}(h:iI d 12e5 29e4 (20 (v8 f a) fD gQ o2 ob))(m:33e3)(n:gb O.U fD fL gQ gc f):aw d 12e5 O T (.Y a fL gc):=
 λq o4 k sc B w x J s Q EE Y r hz v e P=>h k sc B w x J s Q EE Y r hz v (gP e) (n.post m e.cU Wb P)
universe e
def aj6(d:I)(h:cD)(B:11e1)(apC:I)(F:MS)(bI:2e9):Prop:=
 ∀(x:Fx) (J aC:aW) (h0:ai) (s:ae) (Q:34e5) (EE:0e5),3e6->x.ab.bt=h->x.fz=false->pU 3e0 x.A x.ab EE->J.U=apC->293 F s->56 J x h0 s.M->CV x J h0 bI RF Q EE->
  25 (mh B x.ab)
def ig(d:I)(b:15e5)(apC:I)(F:MS)(bI:2e9):Prop:=∀k sc B,fc k sc (.b B b)=true->aj6 d sc B apC F bI
section
variable{d apC:I}{F aS:MS}{b:D Internal.S}{sm:Internal.S}{fL:D aps}{gc:D (I×V)}{f:I->I}{bI:R A}{ob:D Prop}{a:A}
def mM(m:iI d (.s sm) F (57 aS ob))(q:33e3)(w:ig d b apC aS bI):ig d (sm::b) apC F bI:=by
 intro k sc B h x J aC h0 s Q EE Y a hz r i j apv P;cases k with
 |i4=>cases h
 |hG k=>
  cases B with
  |aR=>cases h
  |aQ S B=>
   show oA 18e3 λh1 h2=>?_;show 51e6;show aZ (m.1 k sc S h1 x (J++aC) s _ EE Y a hz r j ⟨q,λn s1 u e v r1=>?_⟩);cases r1;rw[D.eO]at e;exact w k sc B h2 x J (aC++n) h0 s1 Q EE Y a hz r i e (apv.oN v) P
def yW(n:gb apC F.O fL F.T gc f)(p:∀bG,ig d b apC ⟨fL,gc,bG⟩ bI):ig d b apC F bI:=by
 intro k sc B w x J aC h0 s Q EE Y e hz v h q apv P;obtain⟨O,T,bG⟩:=F;show dV (n.sC h q apv) λm a r u=>?_;exact p bG k sc B w x J m h0 s Q EE Y e hz v h a r P
def aj7(r:iI d 12e5 F (.aT (v8 f a) aS ob))(j:33e3)(i:gb apC aS.O fL aS.T gc f):ig d b apC F (20 a fL gc bG []):=by
 intro k sc B c x J aC h0 s Q EE Y m hz o l t apv P;obtain⟨g,o9,z⟩:=aS;show r k sc B c x (J++aC) s Q EE Y m hz o t ⟨j,λapp s1 u h n r1=>?_⟩;rw[D.eO]at h r1;show dV (i.sC l h (apv.oN n)) λq v w e=>?_;exact P q s1 u (gP v) w (Wb e r1)
def aj8(o:O[j]? =G (113 dd))(hd:lk dd n=G 15e9)(app:∀a,ig d b apC ⟨mu O j (113 (fv dd n 26e0)),T,bG⟩ bI):ig d b apC (62 bG) bI:=by
 intro k sc B apA x J aC h0 s Q EE Y apw hz apr g m apv P;have c:j<(J++aC).U:=by rw[m.cU];exact(117 o)
 show oE (⟨_,D.ic c⟩:∃p,(J++aC)[j]? =5e1) λp l=>?_;obtain(⟨apx,A,es,apE,sl,e1,e2,e3,e4⟩):=m.O j _ p o l;have apD:∀{dd:0e1} {es:26e2},lu (J++aC) s.M dd es->lk dd n=G 15e9->∃a,lu (J++aC) s.M (fv dd n 26e0) es/\(fv dd n 26e0).U=dd.U:=by
  intro dd es r;induction r with
  |aR=>exact λh=>nN h
  | @aQ q e dd es rv apu ih=>
   intro h;rw[nQ]at h;simp only[BK];cases z:I.bY q.1 n with
   |true=>
    rw[z]at h;have v:=rv.2;rw[show q.2= 15e9 from 52e7]at v;generalize apq:e.oS=u at v;cases v using mD.cE with
    |Z p l=>exact⟨p.1,.aQ ⟨rv.1,apq▸ 14e9⟩ apu,H⟩
   |false=>
    rw[z]at h;show aN (ih h) λa S l'=>?_;exact⟨a,.aQ rv S,bC (· +1) l'⟩
 show aN (apD e4 hd) λa E f=>?_;show app a k sc B apA x J aC h0 s Q EE Y apw hz apr g ⟨m.d8,by rw[m.cU];exact(Lv _ _ _).bi,λw o' t g1 g2=>?_,m.nd,m.gy,m.up,m.bq,m.bI,m.hJ,m.b3,m.hj,m.gz,m.fx,m.dD,m.os,m.cW⟩ apv P;have g3:(mu O j (113 (fv dd n 26e0)))[w]? =G o':=g1;rw[Sg]at g3;by_cases q:j=w/\j<O.U
 ·rw[eX q]at g3;have R:=ar.G.cF g3;rw[<-q.1,l]at g2;have W:=ar.G.cF g2;rw[<-R,<-W];exact⟨by exact yo f apx,A,es,apE,sl,e1,e2,e3,E⟩
 ·rw[d6 q]at g3;exact m.O w o' t g3 g2
universe e
section
variable{d n:I}{O fD fL:D aps}{T o9 gQ gc:D (I×V)}{o1 o2:D cq}{ob:D Prop}{b:D Internal.S}{t:apw}{a:A}{bI:fj}
def Wd{α β:Type}{x:Fx}{J:aW}{s:ae}{a:α}{F:MS}{br:17e8}{Q:12e2}{EE:0e5}(h:33e3)(P:11 (124 a F)):11 (.aT a F ob):=⟨h,P.2⟩
def We(h:116 aw n d 12e5 O T o1= 20 a fD gQ o2 ob)(r:33e3):aw d 12e5 O T (.Y a fD gQ):=by
 have S:=hR d n 12e5 29e4;rw[h]at S;exact λq o4 k sc B v x J s Q EE Y e hz m w P=>S k sc B v x J s Q EE Y e hz m (gP w) (Wd r (n4 (o:=o2) P H))
def v9{f:I->I}(h:116 aw n d 12e5 O T o1= 20 (v8 f a3) fD gQ o2 ob)(x:33e3)(s:gb O.U fD fL gQ gc f):aw d 12e5 O T (.Y a3 fL gc):=by
 have S:=hR d n 12e5 29e4;rw[h]at S;exact aj5 S x s
def Wf{f:I->I}(a:116 aw 9 d (.t t) O T o0= 20 6e7 O T o0 [])(s:aw d 12e5 O T (52 fD gQ))(x:gb apC fD fL gQ gc f)(hL:∀o,n5 d t b apC ⟨fL,gc,o⟩ r):n5 d t b apC (62 o0) r:=by
 have S:=hR d 9 (.t t) (62 o0);rw[a]at S;exact ajZ S (λe h=>nomatch h) (s o0 o0) (λe h=>nomatch h) x hL
def aj9(a:116 aw 9 d (.t t) O T o0= 20 6e7 O T o0 [])(m:aw d 12e5 O T (.a8 i fD gQ)){f:I->I}(v:gb apC fD fL [] [] f)(e:f j=i)(l:apC<=j)(c:∃C dd,fL[j]? =G (.a8 C dd))(o:2e1):
  n5 d t b apC (62 o0) (.a8 j ⟨fL,gc,o⟩ []):=by
 have S:=hR d 9 (.t t) (62 o0);rw[a]at S;intro k sc apq B h1 h2 x J aC h0 s Q EE Y p hz w q z apv P;have app:CV x J h0 (.a8 j ⟨fL,gc,o0⟩ []) RF Q EE:=λaC s' u e R apv r=>P aC s' u e 26e4 apv r;exact aj1 S (λn h=>nomatch h) (m o0 o0) (λn h=>nomatch h) v e l c gc k sc apq B h1 h2 x J aC h0 s Q EE Y p hz w q z apv app
def aka(e:116 aw 9 d (.t t) O T o0= 20 1e9 O T o0 [])(o:2e1):n5 d t b apC (62 o0) (20 24e4 O T o []):=by
 have S:=hR d 9 (.t t) (62 o0);rw[e]at S;intro k sc apq B h1 h2 x J aC h0 s Q EE Y a hz p m n apv P;exact aj0 S (λv h=>nomatch h) k sc apq B h1 h2 x J aC h0 s Q EE Y a hz p m n apv (λaC s' u R apv r=>P aC s' u 26e4 apv r)
def kp.id{f:I->I}(b:f=λi=>i)(x:∀(i:I) o,O[i]? =0e4->f9 f o=o)(a:∀k v,19e1=2e5->15e3=v):kp f O O T T:=by
 subst b;exact⟨λi o e=>⟨o,e,bC eI (x i o e).bi⟩,λi h=>h,λi j s s h=>h,λk v e=>⟨v,e,bC dG (a k v e).bi⟩⟩
mutual
theorem n6:∀v:V,cK (λi=>i) v=v
 | .X l=>bC V.X (yX l)
 | .ad l t=>bC (V.ad · t) (yX l)
 | .Z i=>rfl
 | .aa v=>rfl
 | .bp b t=>rfl
 | .y i t=>rfl
 | .ag s=>rfl
 | .ch b=>rfl
 | .ei b=>rfl
theorem yX:∀l:D V,bQ (λi=>i) l=l
 | []=>rfl
 |v::l=>(bC (· ::_) (n6 v)).aV (bC (v:: ·) (yX l))
end
def CX{α:Type}:∀l:D (α×V),(320 (p.1,cK 39e7 p.2))=l
 | []=>rfl
 |(a,v)::l=>by rw[D.nX,CX l,n6]
def uu(o:aps):f9 39e7 o=o:=by
 cases o with
 |bw l=>exact bC aps.bw (CX l)
 |bv C d=>exact bC (aps.bv C) (CX d)
 |a8 C d=>exact bC (aps.a8 C) (CX d)
 |az l t=>exact bC (aps.az · t) (yX l)
 |au l=>exact bC aps.au (yX l)
 |cW k i=>exact congr (bC aps.cW (n6 k)) (n6 i)
 |eF=>rfl
def akb{s:Tg}{it:It}{k:I}{v:V}{F h du:MS}{rb rl:MS->2e9}(x:32e5=G 2e5)(hs:pF F s v= 124 () h)(e:rb h= 57 du []):ui F s it k rb rl=rl du:=by
 unfold ui;rw[x];refine((pF F s v).aF _)=_;rw[hs];refine((rb h).aF _).ci []=_;rw[e,yA];refine(rl du).ci []=_;rw[yA]
def akc{s:Tg}{it:It}{k:I}{v w:V}{F h du:MS}{rb rl:MS->2e9}(x:32e5=G 2e5)(hs:pF F s v= 124 () h)(e:rb h= 124 (105 w) du):ui F s it k rb rl= 124 (105 w) du:=by
 unfold ui;rw[x];refine((pF F s v).aF _)=_;rw[hs];refine((rb h).aF _).ci []=_;rw[e,yA];rfl
def gb.id(h:apC<=O.U):gb apC O O T T 39e7:=⟨.id H (λs s s=>uu _) (λs s s=>n6 _),λs s=>rfl,h⟩
def yY{r:Tg}{it:It}{k:I}{v:V}{n7:1e0}{n8:0e1}(n:∀F,32e5=G 2e5)(hs:∀o,pF (62 o) r v= 20 () O o9 o [])(u:aw d 12e5 O o9 (52 n7 n8))(hL:aw d (.gj r it (k+1) b) n7 n8 bI):aw d (.gj r it k b) O T bI:=by
 classical
 intro p o4 m sc apq B h1 h2 h3;have z:=Cs (ih:=tE) (d:=d) (k:=k) (F:=(62 p)) (it:=it) (kt:=0) (B:=B) (rb:=λaS=>if aS.O=O/\aS.T=o9 then 20 24e4 n7 n8 aS.bG []else .no 0)
  (rl:=λaS=>if aS.O=n7/\aS.T=n8 then bI.mY o4 []else .no 0) (CM (ih:=tE) (d:=d) h1 0) (CN h1 h2) (λaS=>?_) (λaS=>?_)
 ·rw[akb (du:=⟨n7,n8,p⟩) (n _) (hs _) (eX 15e2),eX 15e2]at z;exact z
 ·by_cases h:aS.O=O/\aS.T=o9
  ·rw[eX h];obtain⟨ta,w,e⟩:=aS;(show oA h λe1 e2=>?_;try clear h);dsimp only at e1 e2;subst e1 e2;exact u e e m sc B h3
  ·rw[d6 h];exact λx J s Q EE Y q hz i j P=>P.ak
 ·by_cases h:aS.O=n7/\aS.T=n8
  ·rw[eX h];obtain⟨ta,w,e⟩:=aS;(show oA h λe1 e2=>?_;try clear h);dsimp only at e1 e2;subst e1 e2;exact hL e o4 m sc apq B h1 h2 h3
  ·rw[d6 h];exact λx dC aC f s Q EE l wr Y q hz i j apv a b c P=>P.ak
def akd{e:Tg}{it:It}{k:I}{v w:V}{n7:1e0}{n8:0e1}(r:∀F,32e5=G 2e5)(hs:∀o,pF (62 o) e v= 20 () O o9 o [])(q:aw d 12e5 O o9 (.Y (105 w) n7 n8)):aw d (.gj e it k b) O T (.Y (105 w) n7 n8):=by
 classical
 intro m o4 u sc apq B h1 h2 h3;have z:=Cs (ih:=tE) (d:=d) (k:=k) (F:=(62 m)) (it:=it) (kt:=0) (B:=B) (rb:=λaS=>if aS.O=O/\aS.T=o9 then 20 (105 w) n7 n8 o4 []else .no 0)
  (rl:=λaS=> .no 0) (CM (ih:=tE) (d:=d) h1 0) (CN h1 h2) (λaS=>?_) (λaS=>λx dC aC t s Q EE f wr Y n hz i j apv a b c P=>P.ak)
 ·rw[akc (du:=⟨n7,n8,o4⟩) (r _) (hs _) (eX 15e2)]at z;exact z
 ·by_cases h:aS.O=O/\aS.T=o9
  ·rw[eX h];obtain⟨ta,l,p⟩:=aS;(show oA h λe1 e2=>?_;try clear h);dsimp only at e1 e2;subst e1 e2;exact q p o4 u sc B h3
  ·rw[d6 h];exact λx J s Q EE Y n hz i j P=>P.ak
def NE(n:∀F,32e5=G L):aw d (.gj tg it k b) O T (52 O T):=by
 intro w o4 v sc apq B h1 h2 h3;have z:=Cs (ih:=tE) (d:=d) (k:=k) (F:=(62 o4)) (it:=it) (kt:=0) (B:=B) (rb:=λaS=> .no 0) (rl:=λaS=> .no 0) (CM (ih:=tE) (d:=d) h1 0) (CN h1 h2) (λaS=>λx J s Q EE Y h hz e r P=>P.ak) (λaS=>λx dC aC m s Q EE p wr Y h hz e r apv a b c P=>P.ak);unfold ui at z;rw[n]at z;intro x dC aC m s Q EE p wr Y h hz e r apv a b c P;exact z x dC aC m s Q EE p wr Y h hz e (gP r) apv a b c P
universe e
def uv(hr:∀J h us,82 yZ->82 as)(h:aw d 35e8 O T bI):aw d (.aX g yZ) O T bI:=by
 intro o1 o2;show oA (h o1 o2) λh1 h2=>?_;exact⟨λx J s u us Q EE Y a b e P=>h1 x J s u us Q EE Y a b (hr _ _ _ e) P,h2⟩
def Wg(hr:∀J h u,22e2->145 v')(h:122 d 35e8 O T v fD gQ):122 d 35e8 O T v' fD gQ:=by
 intro o1 o2;show oA (h o1 o2) λh1 h2=>?_;have cR:∀{x:Fx} {J:aW} {s:ae} {Q:0e5} {EE:0e5},10 (q2 ((fj.Y (.v v') fD gQ).mY o2 []))->10 (q2 ((fj.Y (.v v) fD gQ).mY o2 [])):=
  λP=>⟨λp h=>(nomatch h),λaC s' u e apv r=>P.2 aC s' u e apv (hr _ _ _ r)⟩
 exact⟨λx J s u us Q EE Y e b a P=>h1 x J s u us Q EE Y e b a (cR P),λx J s Q EE P=>h2 x J s Q EE (cR P)⟩
def ake(J:aW)(h:ai)(u:af)(r:145 (.y i t)):145 (.y i t'):=by cases r;exact .y ..
def iY{n d:I}{g:V}{as:0e0}{O e:1e0}{T a:0e1}{o1 o2:2e1}{v:V}{ob:6e1}(h:116 aw n d 35e8 O T o1= 20 (.v v) e a o2 ob)(r:33e3)(k:kT (62 []) g):122 d 35e8 O T v e a:=by
 have S:=hR d n 35e8 29e4;rw[h]at S;clear h;intro q o4;show⟨λx J s u us Q EE Y w b m P=>S.1 x J s u us Q EE Y (gP w) b m ?_,λx J s Q EE P=>?_⟩
 ·have P:10 (20 v e a o4 []):=P;clear S;refine 10 (20 v e a o2 (ob++[]));rw[D.dZ];exact Wd r (n4 (o:=o2) P H)
 ·cases g<;>exact k
def NF{n d i:I}{g:V}{as:0e0}{O k:1e0}{T o gc:0e1}{o1 o2:2e1}{ob:6e1}(h:fT (116 aw n d 35e8 O T o1)= .a8 i ⟨k,o,o2⟩ ob)(q:33e3)(b:kT (62 []) g):aw d 35e8 O T (.a8 i k gc):=by
 have S:=hR d n 35e8 29e4;generalize apy aw n d (.aX g as) ⟨O,T,o1⟩=r at h S;cases r with
 |aT a F ob=>cases h
 |no w=>cases h
 |a8 t F app=>
  obtain⟨ta,f,c⟩:=F;cases h;intro z o4;show⟨λx J s u us Q EE Y e l j P=>S.1 x J s u us Q EE Y (gP e) l j ?_,λx J s Q EE P=>?_⟩
  ·exact⟨q,λaC s' u m e apv r=>P.2 aC s' u m (gP e) apv r⟩
  ·cases g with
   |aa v=>cases v<;>exact b
   |Z i=>exact b
   |_=>exact b
def iZ{a:I}{F:MS}(h:(lk ft a).iq=true):kT F 26e0:=by
 show oE (ar.mT.mp h) λfn e=>?_;exact VT e
def a6:∀p∈([]:6e1),p:=λs h=>nomatch h
def ac{p:Prop}{l:6e1}(h:p)(x:∀q∈l,q):∀q∈p::l,q:=λq s=>(52e6).ak (λe=>e▸h) (x q)
def akf(P:PP)(d:I)(O:1e0)(T:0e1)(a n s:K)(w:V):227 20 1 459 [0e2,0e3,0e8,w] [1e9,1e9,1e9]= 92 0e6 O [bK (a<0)=false,bK (n<0)=false,bK (s<a+n)=false]:=av
def Wh{a n s:K}{t1 t2 t3:al}{w:V}(J:aW)(h:ai)(us:2e4)(r:82 [.y a t1,.y n t2,.y s t3,w]):82 [0e2,0e3,0e8,w]:=v7 cI r
def ii{d:I}{a n s:K}{t1 t2 t3:al}{w:V}(h:0<=a/\0<=n/\a+n<=s):236 aw (d+1) [.y a t1,.y n t2,.y s t3,w]:=by
 intro O T;exact uv Wh (iY (akf aw d O T a n s w) (130 (127 h.1) (127 h.2.1) (127 h.2.2)) 17e5)
def y0(x:K):344 18446744073709551615=x % 18446744073709551616:=by
 by_cases s:0<=x
 ·rw[bitAnd_pp s aq];have h:x.aJ&&&(18446744073709551615:K).aJ=x.aJ % 18446744073709551616:=I.akg x.aJ 64;rw[h,K.Wi,K.um s];rfl
 ·rw[bitAnd_np s aq];have h:(18446744073709551615:K).aJ&&&(Builtin.CY x).aJ=(Builtin.CY x).aJ % 18446744073709551616:=by
   rw[I.and_comm];exact I.akg (Builtin.CY x).aJ 64
  rw[h];(show oE (K.eq_negSucc_of_lt_zero 53e3) λk a=>?_;subst a);have e:(Builtin.CY 44e0).aJ=k:=by unfold Builtin.CY;lia
  rw[e,K.negSucc_emod k (b:=18446744073709551616) aq];rw[K.Wi];rfl
def akh(P:PP)(d:I)(O:1e0)(T:0e1)(n:K):227 20 1 84 [0e3,29e0] []= 92 (2 (Builtin.i7 n 4294967295)) O []:=av
def aki(P:PP)(d:I)(O:1e0)(T:0e1)(n:K):227 20 1 84 [0e3,17e2] []= 92 (2 (Builtin.i7 n 18446744073709551615)) O []:=av
def Wj{d:I}{n:K}{t:al}:58 aw (d+1) 84 [.y n t,17e2] 50e4:=by
 intro O T;show uv (as:=[0e3,17e2]) (λJ h us r=>?_) (iY (n:=20) (o1:=[]) (o2:=[]) (ob:=[]) ?_ (λp s=>nomatch s) 17e5)
 ·cases r with
  |aQ r1 r=>exact .aQ (ake _ _ _ r1) r
 ·rw[aki,y0]
def akj(a b:K)(k:I)(s:0<=a)(p:a<2^k)(h:0<=b):Builtin.Kg a (b*2^k)=a+b*2^k:=by
 have h2:(0:K)<=b*2^k:=K.Wk h (K.CZ aq);rw[bitOr_and,bitAnd_pp s h2];have:a.aJ&&&(b*2^k).aJ=0:=by
  have e:(b*2^k).aJ=b.aJ<<<k:=by
   rw[I.shiftLeft_eq];apply K.cg.cF;refine((b*2^k).aJ:K)=((b.aJ*2^k:I):K);rw[K.um h2,K.natCast_mul,K.um h,K.Wl];rfl
  have r:a.aJ<2^k:=by
   have h3:((a.aJ:I):K)<((2^k:I):K):=by rw[K.um s,K.Wl];exact p
   exact K.Le.mp h3
  rw[e];apply I.eq_of_testBit_eq;intro i;rw[I.testBit_and,I.testBit_shiftLeft,I.zero_testBit];by_cases x:k<=i
  ·rw[I.testBit_lt_two_pow (I.mF r (I.pow_le_pow_right aq x))];rfl
  ·simp[x]
 rw[bb];lia
def y1:Internal.S:= .kJ (168 59 [35e2])
def akk(P:PP)(d:I)(O:1e0)(a n s:K)(w:V)(o:2e1):cj (apy P 9 (d+1)) (168 59 [35e2]) (198 [(42,0e2),(9,0e3),(55,0e8),(58,w)] [])= 124 18e6 ⟨O++[.a8 51 [(58,w)]],[(42,0e2),(9,0e3),(55,0e8),(58,w)],[]⟩:=av
def akl(n0:I):V->MS->2e9:=λv bR=>gO v 140 λi=>gB (I.g4 n0 i) 150 (gN (bR.dM i) 150 λo=>A4 o i bR)
def akm:aw (d+1) (.s y1) O [(42,0e2),(9,0e3),(55,0e8),(58,w)] (.a8 O.U (O++[.a8 51 [(58,w)]]) []):=by
 have S:=hR (d+1) 10 (.s y1) (198 [(42,0e2),(9,0e3),(55,0e8),(58,w)] []);have e:116 aw 10 (d+1) (.s y1) O [(42,0e2),(9,0e3),(55,0e8),(58,w)] []= .a8 O.U ⟨O++[.a8 51 [(58,w)]],[(42,0e2),(9,0e3),(55,0e8),(58,w)],[]⟩ []:=by
  have e0:116 aw 10 (d+1) (.s y1) O [(42,0e2),(9,0e3),(55,0e8),(58,w)] []=(cj (apy aw 9 (d+1)) (168 59 [35e2]) (198 [(42,0e2),(9,0e3),(55,0e8),(58,w)] [])).aF (akl O.U):=av;rw[e0,akk _ _ _ _ _ _ _ []];refine 278 (gB (I.g4 O.U O.U) 150 (gN (MS.dM _ O.U) 150 λo=>A4 o O.U _))=_;rw[Nz,I.Us.bn 11e7];rfl
 rw[e]at S;intro o1 o2;show⟨λk sc p c x J s' Q EE Y m hz l f P=>S.1 k sc p c x J s' Q EE Y m hz l (gP f) ⟨λapp h=>(nomatch h),λaC j u i v apv r=>P.2 aC j u i (gP v) apv r⟩,λk sc apq B t b q=>(by cases q)⟩
def akn(s:Internal.S):al:=match s with
 | .kJ e=>(e.xE.cr λp=>p.1.g?).fN (I.bY 59)
 |_=>false
def ako:Tk->al:=λtk=>match tk with
 | .s s=>akn s
 |_=>false
def akp(P:PP)(d:I)(O:1e0)(T:0e1)(a n s:K)(w:V):fT (227 20 2 459 [0e2,0e3,0e8,w] [1e9,1e9,6e7,.ed ako λh os l=> .a8 os.U (os++[.a8 51 [(58,w)]]) []])= .a8 O.U ⟨O++[.a8 51 [(58,w)]],[],[]⟩ [bK (a<0)=false,bK (n<0)=false,bK (s<a+n)=true,P (d+1) (.s y1) O [(42,0e2),(9,0e3),(55,0e8),(58,w)] (.a8 O.U (O++[.a8 51 [(58,w)]]) [])]:=av
def kq{d:I}{a n s:K}{t1 t2 t3:al}{w:V}(h:0<=a/\0<=n/\s<a+n):jP aw (d+2) 459 [.y a t1,.y n t2,.y s t3,w] w:=by
 intro O T;exact uv Wh (NF (akp aw d O T a n s w) (27 (127 h.1) (127 h.2.1) (eE h.2.2) akm) 17e5)
def Wm(x:be):25e6<256:=by have:=x.C0;exact K.NG.mp bb
def akq(x:be)(k:K)(h:0<=k/\k<=1000):a9 .py 25e6 k=true:=by
 have h1:=Wm x;show al.mB.bn ⟨al.mB.bn ⟨eE h.1,eE bN⟩,eE ?_⟩;have:(25e6).tz=x.aJ:=by exact K.natAbs_natCast x.aJ
 rw[bb];exact I.mF x.C0 aq
def y2:4e9->I->K->K
 | [],_,a=>a
 |x::l,k,a=>y2 l (k+8) (Builtin.Kg a (25e6*2^k))
def NH:4e9->K->6e1
 | [],_=>[]
 |x::l,k=>(a9 .py 25e6 k=true)::NH l (k+8)
def akr(l:4e9):∀(k:I) (a:K),0<=a->a<2^k->y2 l k a=a+2^k*gk l:=by
 induction l with
 |aR=>exact λk a b b=>(bC (a+ ·) (K.mul_zero _)).aV (K.add_zero a) |>.bi
 |aQ x l p=>
  intro k a h0 h1;have h:=Wm x;have s:(0:K)<=x.aJ:=K.nR _;refine y2 l (k+8) (Builtin.Kg a (25e6*2^k))=a+2^k*(25e6+256*gk l);have e:(2:K)^(k+8)=2^k*256:=K.pow_add ..;have hm:25e6*2^k<=255*2^k:=K.mul_le_mul_of_nonneg_right (K.le_of_lt_add_one h) (K.CZ aq);have r:0<=25e6*2^k:=K.Wk s (K.CZ aq);rw[akj a _ k h0 h1 s,p (k+8) _ (K.Wn h0 r) (by rw[e];lia),e,K.mul_add,K.R9 (2^k) 25e6,<-K.mul_assoc,K.Wo]
def aks(l:4e9):∀k:K,0<=k->k+8*l.U<=1000->∀p∈NH l k,p:=by
 induction l with
 |aR=>exact λk s s=>a6
 |aQ x l h=>exact λk h0 h1=>have h1:k+8*((l.U+1:I):K)<=1000:=h1;ac (akq x k ⟨h0,bN⟩) (h (k+8) bN bN)
def akt(xs:4e9):Prop:=∀(P:PP) (d:I) (O:1e0) (T:0e1),227 30 1 447 [.ei xs] []= 92 (2 (y2 xs 0 0)) O (NH xs 0)
def C1(h:akt xs)(s:xs.U<=8):58 aw (d+1) 447 [.ei xs] 20e4:=by
 intro O T;have e:20e4=y2 xs 0 0:=((akr xs 0 0 (K.eC 0) aq).aV ((K.zero_add _).aV (K.one_mul _))).bi;rw[e];exact iY (h aw d O T) (aks xs 0 (K.eC 0) bN) 17e5
def aku:58 aw (d+1) 447 [.ei [x0]] (gk [x0]):=55e0
def akv:58 aw (d+1) 447 [.ei [x0,x1]] (gk [x0,x1]):=55e0
def akw:58 aw (d+1) 447 [.ei [x0,x1,x2,x3]] (gk [x0,x1,x2,x3]):=55e0
def akx:58 aw (d+1) 447 [.ei [x0,x1,x2,x3,aqJ,aqK,aqL,aqM]] (gk [x0,x1,x2,x3,aqJ,aqK,aqL,aqM]):=55e0
def WidR(n b W W1 apz B1:K)(t:al):Prop:=∀(P:PP) (d:I) (O:1e0) (T:0e1) (x:K),227 30 2 105 [6e6,0 n,0 b] [.b t]= 92 (2 (Builtin.i7 (cC t (344 W1-W) (344 W1)) B1)) O [a9 .xm (344 W1) (n-1)=true,bK ((344 W1).aL apz≠0)=t]
def y3(r1:WidR n b W W1 apz B1 true)(m:WidR n b W W1 apz B1 false)(k:∀x,344 W1=x % W)(p:∀x,344 B1=x % B)(h:0<apz/\0<W/\W<=B/\0<=n-1)
  (e:m3 x n b=if apz<=x % W then(x % W-W) % B else x % W):58 aw (d+2) 105 [6e6,0 n,0 b] (m3 x n b):=by
 intro O T;(show lG h λh1 h2 h3 s=>?_;try clear h);have hm:=K.nh x (K.vb h2);have a:=K.NI (x % W) (K.jx h1);rw[e];by_cases q:apz<=x % W
 ·have r:=r1 aw d O T x;rw[k,p,a]at r;rw[eX q];exact iY r (24 (eE s) (eE λz=>bM (K.le_ediv_of_mul_le h1 (by rw[K.one_mul];exact q):1<=x % W/apz) (by rw[z];decide))) 17e5
 ·have r:=m aw d O T x;rw[k,p,a]at r;have r:_=R.aT (A.v (V.y (x % W % B) true)) _ _:=r;rw[K.Wp hm (K.mF (K.n9 x h2) h3)]at r;rw[d6 q];exact iY r (24 (eE s) (fX λz=>z (K.ediv_eq_zero_of_lt hm (K.jV.mp q)))) 17e5
def aky:58 aw (d+2) 105 [6e6,0 8,29e0] (m3 x 8 32):=383 256 255 128 4294967296 4294967295 y4 C2 aq H
def akz:58 aw (d+2) 105 [6e6,4e0,29e0] (m3 x 16 32):=383 65536 65535 32768 4294967296 4294967295 Wq C2 aq H
def akA:58 aw (d+2) 105 [6e6,0 8,17e2] (m3 x 8 64):=383 256 255 128 18446744073709551616 18446744073709551615 y4 y0 aq H
def akB:58 aw (d+2) 105 [6e6,4e0,17e2] (m3 x 16 64):=383 65536 65535 32768 18446744073709551616 18446744073709551615 Wq y0 aq H
def akC:58 aw (d+2) 105 [6e6,29e0,17e2] (m3 x 32 64):=383 4294967296 4294967295 2147483648 18446744073709551616 18446744073709551615 C2 y0 aq H
def Ws(P:PP)(d:I)(O:1e0)(T:0e1)(s n apt:K):227 30 1 478 [0e8,0e3,0e6,40e3] [1e9,6e7]= 92 0e6 O [bK (n<0)=false,bK (apt<(s+n))=true]/\
  227 30 1 478 [0e8,0e3,0e6,40e3] [1e9,1e9]= 92 (2 (s+n)) O [bK (n<0)=false,bK (apt<(s+n))=false]:=⟨av,av⟩
def akD(h0:0<=n)(h:s+n<=apt):58 aw (d+1) 478 [0e8,0e3,0e6,40e3] (s+n):=λO T=>
 iY (Ws aw d O T s n apt).2 (24 (127 h0) (127 h)) (17e5)
def akE(h0:0<=n)(h:¬(s+n<=apt)):cw aw (d+1) 478 [0e8,0e3,0e6,40e3] 0e6:=λO T=>
 iY (Ws aw d O T s n apt).1 (24 (127 h0) (eE (K.jV.mp h))) (17e5)
def NJ(P:PP)(d:I)(O:1e0)(T:0e1)(s n m apt:K):227 30 1 478 [0e8,0e3,0 m,40e3] [1e9,6e7]= 92 0e6 O [bK (n<0)=false,bK (apt<(s+n))=true]/\
  227 30 1 478 [0e8,0e3,0 m,40e3] [1e9,1e9,6e7]= 92 0e6 O [bK (n<0)=false,bK (apt<(s+n))=false,bK (m<(s+n))=true]/\
  227 30 1 478 [0e8,0e3,0 m,40e3] [1e9,1e9,1e9]= 92 (2 (s+n)) O [bK (n<0)=false,bK (apt<(s+n))=false,bK (m<(s+n))=false]:=⟨av,av,av⟩
def NK(h0:0<=n)(h:s+n<=apt/\s+n<=m):58 aw (d+1) 478 [0e8,0e3,0 m,40e3] (s+n):=λO T=>
 iY (NJ aw d O T s n m apt).2.2 (130 (127 h0) (127 h.1) (127 h.2)) (17e5)
def NL(h0:0<=n)(h:¬(s+n<=apt/\s+n<=m)):cw aw (d+1) 478 [0e8,0e3,0 m,40e3] 0e6:=λO T=>by
 by_cases q:s+n<=apt
 ·exact iY (NJ aw d O T s n m apt).2.1 (130 (127 h0) (127 q) (eE (K.jV.mp λz=>h ⟨q,z⟩))) 17e5
 ·exact iY (NJ aw d O T s n m apt).1 (24 (127 h0) (eE (K.jV.mp q))) 17e5
universe e
section
open PySem PySem.W
set_option backward.match.sparseCases false
def Wt(P:PP)(sh:Sh)(b:MB)(k k1:K)(T:0e1)(n:K)(aD:0e0):45 [5e8,0e3] aD [240 84 47e5]=40 b (2 47e5::aD) [58 P 36 84 [0e3,29e0] 47e5,aD.U+1<=16777216]:=by revert sh;show 4e3;kernel_rfl
def akF(P:PP)(sh:Sh)(b:MB)(k k1:K)(T:0e1)(n:K)(aD:0e0):45 [21e4,0e3] aD [240 84 50e4]=40 b (2 50e4::aD) [58 P 36 84 [0e3,17e2] 50e4,aD.U+1<=16777216]:=by revert sh;show 4e3;kernel_rfl
def akG(P:PP)(sh:Sh)(b:MB)(k k1:K)(T:0e1)(n:K)(aD:0e0):45 [0 208,0e3] aD []=40 b (0e6::aD) 25e2:=by revert sh;show 4e3;kernel_rfl
def akH(P:PP)(sh:Sh)(b:MB)(k k1:K)(T:0e1)(n v:K)(aD:0e0):45 [0 210,0e3] aD [.v (0 v)]=40 b (0 v::aD) [(dq [1e3,1e8,0e7,10e8,3e8,3e4] n)=G (0 v),aD.U+1<=16777216]:=by revert sh;show 4e3;kernel_rfl
def akI(P:PP)(sh:Sh)(b:MB)(k k1:K)(T:0e1)(aD:0e0):45 [29e0,0e7] aD []=40 b (0 9::aD) 25e2:=by revert sh;show 4e3;kernel_rfl
def akJ(P:PP)(sh:Sh)(b:MB)(k k1:K)(T:0e1)(aD:0e0):45 [43e3] (0e6::aD) []=40 b (1e3::aD) 25e2:=by revert sh;show 4e3;kernel_rfl
def akK(P:PP)(sh:Sh)(b:MB)(k k1:K)(T:0e1)(v:K)(aD:0e0):45 [43e3] (0 v::aD) []=40 b (0e7::aD) 25e2:=by revert sh;show 4e3;kernel_rfl
def akL(P:PP)(sh:Sh)(b:MB)(k k1:K)(T:0e1)(aD:0e0):45 [16e3,0e7] aD []=40 b (31e3::aD) 25e2:=by revert sh;show 4e3;kernel_rfl
def akM(P:PP)(sh:Sh)(b:MB)(k k1:K)(T:0e1)(aD:0e0):45 [16e3,1e3] aD []=40 b (31e2::aD) 25e2:=by revert sh;show 4e3;kernel_rfl
def akN(P:PP)(sh:Sh)(b:MB)(k k1:K)(T:0e1)(aD:0e0):cG P sh 44e9 k k1 (.X [16e3,1e8]) aD T []=40 44e9 (0e6::aD) 25e2:=by revert sh;show 4e3;kernel_rfl
def akO(P:PP)(sh:Sh)(b:MB)(k k1:K)(T:0e1)(v:K)(aD:0e0):cG P sh (337 v) k k1 (.X [16e3,1e8]) aD T []=40 (337 v) (0 v::aD) 25e2:=by revert sh;show 4e3;kernel_rfl
def akP(P:PP)(sh:Sh)(b:MB)(k k1:K)(T:0e1)(v:K)(aD:0e0):45 [21e3,0e7] (2 v::aD) []=40 {b with c0:=v} aD []:=by revert sh;show 4e3;kernel_rfl
def akQ(P:PP)(sh:Sh)(b:MB)(k k1:K)(T:0e1)(v:K)(aD:0e0):45 [21e3,1e3] (2 v::aD) []=40 {b with c1:=v} aD []:=by revert sh;show 4e3;kernel_rfl
def akR(P:PP)(sh:Sh)(b:MB)(k k1:K)(T:0e1)(v:V)(aD:0e0):45 [21e3,1e8] (v::aD) []=40 {b with c2:=v} aD []:=by revert sh;show 4e3;kernel_rfl
def akS(P:PP)(sh:Sh)(b:MB)(k k1:K)(T:0e1):45 [0 63] [] []=40 b [2 ((10e2).aL 16)] [15 10e2 16=true,1<=16777216]:=by revert sh;show 4e3;kernel_rfl
def akT(P:PP)(sh:Sh)(b:MB)(k k1:K)(T:0e1)(n:K):45 [17e2] [0e3] [228 478 0e6]=40 b [44e8] [15 10e2 16=true,cw P 33 478 [2 ((10e2).aL 16),0e3,1e8,3e4] 0e6,1<=16777216]:=by revert sh;show 4e3;kernel_rfl
def akU(P:PP)(sh:Sh)(b:MB)(k k1:K)(T:0e1)(n:K):45 [17e2] [0e3] [240 478 (((10e2).aL 16)+n)]=40 {b with aO:=(b.aO++(D.gi ((n*16)).aJ (0:be)))} [2 ((10e2).aL 16)] [15 10e2 16=true,58 P 33 478 [2 ((10e2).aL 16),0e3,1e8,3e4] (((10e2).aL 16)+n),a9 .f4 n 16=true,bK (0<=(n*16)/\(n*16)<=16777216)=true,b.aO.U+(D.gi ((n*16)).aJ (0:be)).U<=16777216,1<=16777216]:=by revert sh;show 4e3;kernel_rfl
def akV(P:PP)(sh:Sh)(b:MB)(k k1:K)(T:0e1)(n s a:K):93 b [16e1] [0e3,0e8,0e2] [39e5]=148 b (58,2e7) [jP P 32 459 [0e2,0e3,22e8,2e7] 2e7]:=by revert sh;show 4e3;kernel_rfl
def akW(P:PP)(sh:Sh)(b:MB)(k k1:K)(T:0e1)(n s a:K):45 [16e1] [0e3,0e8,0e2] [13e2]=40 {b with aO:=(204 b.aO (dN [279 ((339 s))] n))} [] [196 [0e2,0e3,22e8,2e7],([(339 s)].dJ (289 (i<256)))=true,xr [279 ((339 s))] n=true,b.aO.U+(dN [279 ((339 s))] n).U<=16777216]:=by revert sh;show 4e3;kernel_rfl
def akX(P:PP)(sh:Sh)(b:MB)(k k1:K)(T:0e1)(n s a:K):93 b [20e8] [0e3,0e8,0e2] [39e5]=148 b (58,2e7) [jP P 32 459 [0e8,0e3,22e8,2e7] 2e7]:=by revert sh;show 4e3;kernel_rfl
def akY(P:PP)(sh:Sh)(b:MB)(k k1:K)(T:0e1)(n s a:K):93 b [20e8] [0e3,0e8,0e2] [13e2,39e5]=148 b (58,2e7) [196 [0e8,0e3,22e8,2e7],jP P 32 459 [0e2,0e3,22e8,2e7] 2e7]:=by revert sh;show 4e3;kernel_rfl
def akZ(P:PP)(sh:Sh)(b:MB)(k k1:K)(T:0e1)(n s a:K):45 [20e8] [0e3,0e8,0e2] [13e2,13e2]=40 {b with aO:=(211 b.aO)} [] [196 [0e8,0e3,22e8,2e7],196 [0e2,0e3,22e8,2e7],b.aO.U+(50 b.aO s (s+n)).U<=16777216]:=by revert sh;show 4e3;kernel_rfl
def ak0(P:PP)(sh:Sh)(b:MB)(k k1:K)(T:0e1)(i:K)(h:16e0)(n s a:K)(dt:4e9):93 23e2 [8e6,6e5] [0e3,0e8,0e2] [39e5]=148 23e2 (58,2e7) [jP P 33 459 [0e8,0e3,2 (dt.U:K),2e7] 2e7]:=by revert sh;show 4e3;replace h:=mz h;revert i h;show 3e1;kernel_rfl
def ak1(P:PP)(sh:Sh)(b:MB)(k k1:K)(T:0e1)(i:K)(h:16e0)(n s a:K)(dt:4e9):93 23e2 [8e6,6e5] [0e3,0e8,0e2] [13e2,39e5]=148 23e2 (58,2e7) [236 P 33 [0e8,0e3,2 (dt.U:K),2e7],jP P 32 459 [0e2,0e3,22e8,2e7] 2e7]:=by revert sh;show 4e3;replace h:=mz h;revert i h;show 3e1;kernel_rfl
def ak2(P:PP)(sh:Sh)(b:MB)(k k1:K)(T:0e1)(i:K)(h:16e0)(n s a:K)(dt:4e9):cG P sh 23e2 k k1 (.X [8e6,6e5]) [0e3,0e8,0e2] T [13e2,13e2]=40 {(23e2)with aO:=(211 dt)} [] [236 P 33 [0e8,0e3,2 (dt.U:K),2e7],196 [0e2,0e3,22e8,2e7],b.aO.U+(50 dt s (s+n)).U<=16777216]:=by revert sh;show 4e3;replace h:=mz h;revert i h;show 3e1;kernel_rfl
def ak3(P:PP)(sh:Sh)(b:MB)(k k1:K)(T:0e1)(i:K)(h:16e0)(n s a:K):93 19e8 [8e6,6e5] [0e3,0e8,0e2] [39e5]=148 19e8 (58,2e7) [jP P 33 459 [0e8,0e3,12e8,2e7] 2e7]:=by revert sh;show 4e3;replace h:=mz h;revert i h;show 3e1;kernel_rfl
def ak4(P:PP)(sh:Sh)(b:MB)(k k1:K)(T:0e1)(i:K)(h:16e0)(n s a:K):93 19e8 [8e6,6e5] [0e3,0e8,0e2] [13e2,39e5]=148 19e8 (58,2e7) [236 P 33 [0e8,0e3,12e8,2e7],jP P 32 459 [0e2,0e3,22e8,2e7] 2e7]:=by revert sh;show 4e3;replace h:=mz h;revert i h;show 3e1;kernel_rfl
def ak5(P:PP)(sh:Sh)(b:MB)(k k1:K)(T:0e1)(i:K)(h:16e0)(n s a:K):cG P sh 19e8 k k1 (.X [8e6,6e5]) [0e3,0e8,0e2] T [13e2,13e2]=40 {(19e8)with aO:=(211 ([]:4e9))} [] [236 P 33 [0e8,0e3,12e8,2e7],196 [0e2,0e3,22e8,2e7],b.aO.U+(50 ([]:4e9) s (s+n)).U<=16777216]:=by revert sh;show 4e3;replace h:=mz h;revert i h;show 3e1;kernel_rfl
def ak6(P:PP)(sh:Sh)(b:MB)(k k1:K)(T:0e1)(i:K)(s:16e0):45 [48e7,6e5] [] []=40 19e8 [] []:=by revert sh;show 4e3;replace s:=mz s;revert i s;show 3e1;kernel_rfl
def ak7(P:PP)(sh:Sh)(b:MB)(k k1:K)(T:0e1)(t:K)(s:7e3)(a:K)(v:V):93 b [38e2,1e1] [0e2] [39e6]=148 b (58,3e9) [jP P 32 459 [0e2,1e3,20e9,3e9] 3e9]:=by revert sh;show 4e3;replace s:=20e6;revert t s;show 3e1;kernel_rfl
def ak8(P:PP)(sh:Sh)(b:MB)(k k1:K)(T:0e1)(t:K)(s:7e3)(a:K)(v:V):45 [38e2,1e1] [0e2] [13e2,.v v]=40 b [v] [196 [0e2,1e3,20e9,3e9],16e4=2e5,1<=16777216]:=by revert sh;show 4e3;replace s:=20e6;revert t s;show 3e1;kernel_rfl
def ak9(P:PP)(sh:Sh)(b:MB)(k k1:K)(T:0e1)(t:K)(s:7e3)(a:K)(v:V):93 b [0 38,1e1] [v,0e2] [39e6]=148 b (58,3e9) [jP P 32 459 [0e2,1e3,20e9,3e9] 3e9]:=by revert sh;show 4e3;replace s:=20e6;revert t s;show 3e1;kernel_rfl
def ala(P:PP)(sh:Sh)(b:MB)(k k1:K)(T:0e1)(t:K)(s:7e3)(a:K)(v:V):45 [0 38,1e1] [v,0e2] [13e2]=40 (226 (D.cN 10e3 (a).aJ v)) [] [196 [0e2,1e3,20e9,3e9],bK (0<=a/\a<5e2)=true]:=by revert sh;show 4e3;replace s:=20e6;revert t s;show 3e1;kernel_rfl
def alb(P:PP)(sh:Sh)(b:MB)(k k1:K)(T:0e1)(t:K)(s:7e3):45 [48e8,1e1] [] []=40 b [20e9] (286 1):=by revert sh;show 4e3;replace s:=20e6;revert t s;show 3e1;kernel_rfl
def alc(P:PP)(sh:Sh)(b:MB)(k k1:K)(T:0e1)(t:K)(s:7e3)(n:K)(v:V):45 [39e3,1e1] [0e3,v] [228 478 0e6]=40 b [44e8] [cw P 33 478 [20e9,0e3,A7 t,16e9] 0e6,1<=16777216]:=by revert sh;show 4e3;replace s:=20e6;revert t s;show 3e1;kernel_rfl
def ald(P:PP)(sh:Sh)(b:MB)(k k1:K)(T:0e1)(t:K)(s:7e3)(n:K)(v:V):45 [39e3,1e1] [0e3,v] [240 478 (5e2+n)]=40 (226 (10e3++35e7)) [20e9] [58 P 33 478 [20e9,0e3,A7 t,16e9] (5e2+n),jM n=true,(35e7).U<=16777216,((10e3++35e7)).U<=16777216,1<=16777216]:=by revert sh;show 4e3;replace s:=20e6;revert t s;show 3e1;kernel_rfl
def ale(P:PP)(sh:Sh)(b:MB)(k k1:K)(T:0e1)(t:K)(s:7e3)(n a:K)(v:V):93 b [33e6,1e1] [0e3,v,0e2] [39e6]=148 b (58,3e9) [jP P 31 459 [0e2,0e3,20e9,3e9] 3e9]:=by revert sh;show 4e3;replace s:=20e6;revert t s;show 3e1;kernel_rfl
def alf(P:PP)(sh:Sh)(b:MB)(k k1:K)(T:0e1)(t:K)(s:7e3)(n a:K)(v:V):45 [33e6,1e1] [0e3,v,0e2] [13e2]=40 (226 (204 10e3 35e7)) [] [236 P 31 [0e2,0e3,20e9,3e9],jM n=true,(35e7).U<=16777216,(10e3).U+(35e7).U<=16777216]:=by revert sh;show 4e3;replace s:=20e6;revert t s;show 3e1;kernel_rfl
def alg(P:PP)(sh:Sh)(b:MB)(k k1:K)(T:0e1)(x app:K)(h:CP x app)(n s a:K):93 b [28e7,0 x,17e1] [0e3,0e8,0e2] [39e6]=148 b (58,3e9) [jP P 31 459 [0e8,0e3,2 50e9,3e9] 3e9]:=by revert sh;show 4e3;replace h:=xK h;revert x app h;show 13e8;kernel_rfl
def alh(P:PP)(sh:Sh)(b:MB)(k k1:K)(T:0e1)(x app:K)(h:CP x app)(n s a:K):93 b [28e7,0 x,17e1] [0e3,0e8,0e2] [13e2,39e6]=148 b (58,3e9) [236 P 31 [0e8,0e3,2 50e9,3e9],jP P 31 459 [0e2,0e3,2 55e2,3e9] 3e9]:=by revert sh;show 4e3;replace h:=xK h;revert x app h;show 13e8;kernel_rfl
def ali(P:PP)(sh:Sh)(b:MB)(k k1:K)(T:0e1)(x app:K)(h:CP x app)(n s a:K):45 [28e7,0 x,17e1] [0e3,0e8,0e2] [13e2,13e2]=40 (b.eZ x (235 (b.tb x) 18e5)) [] [236 P 31 [0e8,0e3,2 50e9,3e9],236 P 31 [0e2,0e3,2 55e2,3e9],((50 18e5 s (s+n))).U<=16777216,(b.tb x).U+((50 18e5 s (s+n))).U<=16777216]:=by revert sh;show 4e3;replace h:=xK h;revert x app h;show 13e8;kernel_rfl
def alj(P:PP)(sh:Sh)(b:MB)(k k1:K)(T:0e1)(e t:K)(h:IN e t)(n s a:K)(dt:0e0):93 23e3 [8e7,11e5,1e1] [0e3,0e8,0e2] [39e6]=148 23e3 (58,3e9) [jP P 32 459 [0e8,0e3,2 (dt.U:K),3e9] 3e9]:=by revert sh;show 4e3;replace h:=pK h;revert e t h;show 13e8;kernel_rfl
def alk(P:PP)(sh:Sh)(b:MB)(k k1:K)(T:0e1)(e t:K)(h:IN e t)(n s a:K)(dt:0e0):93 23e3 [8e7,11e5,1e1] [0e3,0e8,0e2] [13e2,39e6]=148 23e3 (58,3e9) [196 [0e8,0e3,2 (dt.U:K),3e9],jP P 31 459 [0e2,0e3,20e9,3e9] 3e9]:=by revert sh;show 4e3;replace h:=pK h;revert e t h;show 13e8;kernel_rfl
def m_tinb2(P:PP)(sh:Sh)(b:MB)(k k1:K)(T:0e1)(e t:K)(h:IN e t)(n s a:K)(dt:0e0):cG P sh 23e3 k k1 (.X [8e7,11e5,1e1]) [0e3,0e8,0e2] T [13e2,13e2]=40 ((23e3).eZ t (319 dt)) [] [196 [0e8,0e3,2 (dt.U:K),3e9],236 P 31 [0e2,0e3,20e9,3e9],((50 dt s (s+n))).U<=16777216,(10e3).U+((50 dt s (s+n))).U<=16777216]:=by revert sh;show 4e3;replace h:=pK h;revert e t h;show 13e8;kernel_rfl
def m_tinn0(P:PP)(sh:Sh)(b:MB)(k k1:K)(T:0e1)(e t:K)(h:IN e t)(n s a:K):93 23e8 [8e7,11e5,1e1] [0e3,0e8,0e2] [39e6]=148 23e8 (58,3e9) [jP P 32 459 [0e8,0e3,0e7,3e9] 3e9]:=by revert sh;show 4e3;replace h:=pK h;revert e t h;show 13e8;kernel_rfl
def m_tinn1(P:PP)(sh:Sh)(b:MB)(k k1:K)(T:0e1)(e t:K)(h:IN e t)(n s a:K):93 23e8 [8e7,11e5,1e1] [0e3,0e8,0e2] [13e2,39e6]=148 23e8 (58,3e9) [196 [0e8,0e3,0e7,3e9],jP P 31 459 [0e2,0e3,20e9,3e9] 3e9]:=by revert sh;show 4e3;replace h:=pK h;revert e t h;show 13e8;kernel_rfl
def m_tinn2(P:PP)(sh:Sh)(b:MB)(k k1:K)(T:0e1)(e t:K)(h:IN e t)(n s a:K):cG P sh 23e8 k k1 (.X [8e7,11e5,1e1]) [0e3,0e8,0e2] T [13e2,13e2]=40 ((23e8).eZ t 49e9) [] [196 [0e8,0e3,0e7,3e9],236 P 31 [0e2,0e3,20e9,3e9],((50 27e2 s (s+n))).U<=16777216,(10e3).U+((50 27e2 s (s+n))).U<=16777216]:=by revert sh;show 4e3;replace h:=pK h;revert e t h;show 13e8;kernel_rfl
def m_edr(P:PP)(sh:Sh)(b:MB)(k k1:K)(T:0e1)(i:K)(s:16e0):45 [48e9,6e5] [] []=40 (b.fB i 0e6) [] []:=by revert sh;show 4e3;replace s:=mz s;revert i s;show 3e1;kernel_rfl
def m_inx(P:PP)(sh:Sh)(b:MB)(k k1:K)(T:0e1)(q t i:K)(v:V)(z:am):93 b [4e1,10e7,1e1] [14e8,v] [297 46e2 (205 24e9 b k1 [v] 51 [(58,7e8)] l)]=gw 24e9 (138 b k1 [v] 51 [(58,7e8)]) [P 35 (271 [7e9,3e7,.X [4e1,10e7,1e1]]) (100 b [14e8,v]) [(164,7e9),(207,3e7),(43,.X [4e1,10e7,1e1]),(6,4e1)] (205 24e9 b k1 [v] 51 [(58,7e8)] [(164,7e9),(207,3e7),(43,.X [4e1,10e7,1e1]),(6,4e1)])]:=by revert sh;show 4e3;kernel_rfl
def m_inx2(P:PP)(sh:Sh)(b:MB)(k k1:K)(T:0e1)(q t i:K)(v w:V)(z:am):93 b [4e1,10e7,1e1] [14e8,v,w] [297 46e2 (205 24e9 b k1 [v,w] 51 [(58,7e8)] l)]=gw 24e9 (138 b k1 [v,w] 51 [(58,7e8)]) [P 35 (271 [7e9,3e7,.X [4e1,10e7,1e1]]) (100 b [14e8,v,w]) [(164,7e9),(207,3e7),(43,.X [4e1,10e7,1e1]),(6,4e1)] (205 24e9 b k1 [v,w] 51 [(58,7e8)] [(164,7e9),(207,3e7),(43,.X [4e1,10e7,1e1]),(6,4e1)])]:=by revert sh;show 4e3;kernel_rfl
def m_tlx(P:PP)(sh:Sh)(b:MB)(k k1:K)(T:0e1)(q t i:K)(v:V)(z:am):93 b [8e3,10e7,1e1] [14e8,v] [297 46e2 (205 24e9 b k1 [v] 51 [(58,7e8)] l)]=gw 24e9 (138 b k1 [v] 51 [(58,7e8)]) [P 35 (271 [7e9,3e7,.X [8e3,10e7,1e1]]) (100 b [14e8,v]) [(164,7e9),(207,3e7),(43,.X [8e3,10e7,1e1]),(6,8e3)] (205 24e9 b k1 [v] 51 [(58,7e8)] [(164,7e9),(207,3e7),(43,.X [8e3,10e7,1e1]),(6,8e3)])]:=by revert sh;show 4e3;kernel_rfl
def m_fin(P:PP)(sh:Sh)(b:MB)(k k1:K)(T:0e1)(au:0e0):45 [21e2] au []=ea (Kt sh b k1 au) T []:=by revert sh;show 4e3;kernel_rfl
def m_tlk(P:PP)(sh:Sh)(h:15e0)(b:MB)(k k1:K)(T:0e1)(t i:K)(v:V):45 [8e3,1e3,1e1] [14e8,v] [297 46e2 (36 1e8 (100 b [v]) l)]=ea (xI sh {b with no:=(b.no++[.X [1e3,6 [v]]])} k1 [v]) T [P 35 (271 [7e9,3e7,.X [8e3,1e3,1e1]]) (100 b [14e8,v]) [(164,7e9),(207,3e7),(43,.X [8e3,1e3,1e1]),(6,8e3)] (36 1e8 (100 b [v]) [(164,7e9),(207,3e7),(43,.X [8e3,1e3,1e1]),(6,8e3)]),1<=16777216,1<=16777216,0<=16777216,1<=16777216,1<=16777216,b.no.U+1<=16777216,0<=16777216]:=by replace h:=nK h;revert sh h;show 3e1;kernel_rfl
def m_far3(P:PP)(sh:Sh)(h:15e0)(b:MB)(k k1:K)(T:0e1)(fa s:K):cG P sh 51e2 k k1 (.X [4e0,3e8]) [0e8,13e3] T []=ea (pI sh {b with apr:=3,pk:=(jo b.pk 2)} k1 [0e8,13e3] fa s true) T (286 2):=by replace h:=nK h;revert sh h;show 3e1;kernel_rfl
def m_inf3(P:PP)(sh:Sh)(h:15e0)(b:MB)(k k1:K)(T:0e1)(t i fa s:K):cG P sh 51e2 k k1 (.X [4e1,3e8,1e1]) [14e8,0e8,13e3] T [.ed 46e2 λx x l=> 36 3e4 (100 51e2 [0e8,13e3]) l]=ea (pI sh {b with apr:=3,pk:=(jo b.pk 2)} k1 [0e8,13e3] fa s true) T [P 35 (271 [7e9,3e7,.X [4e1,3e8,1e1]]) (100 51e2 [14e8,0e8,13e3]) [(164,7e9),(207,3e7),(43,.X [4e1,3e8,1e1]),(6,4e1)] (36 3e4 (100 51e2 [0e8,13e3]) [(164,7e9),(207,3e7),(43,.X [4e1,3e8,1e1]),(6,4e1)]),2<=16777216]:=by replace h:=nK h;revert sh h;show 3e1;kernel_rfl
def m_far1(P:PP)(sh:Sh)(h:15e0)(b:MB)(k k1:K)(T:0e1)(fa s:K):93 45e0 [4e0,3e8] [0e8,13e3] []=gw 24e9 (138 45e0 k1 [0e8,13e3] 63 [(58,14e5)]) []:=by replace h:=nK h;revert sh h;show 3e1;kernel_rfl
def m_inf1(P:PP)(sh:Sh)(h:15e0)(b:MB)(k k1:K)(T:0e1)(t i fa s:K):93 45e0 [4e1,3e8,1e1] [14e8,0e8,13e3] [.ed 46e2 λx x l=> 36 3e4 (100 45e0 [0e8,13e3]) l]=gw 24e9 (138 45e0 k1 [0e8,13e3] 63 [(58,14e5)]) [P 35 (271 [7e9,3e7,.X [4e1,3e8,1e1]]) (100 45e0 [14e8,0e8,13e3]) [(164,7e9),(207,3e7),(43,.X [4e1,3e8,1e1]),(6,4e1)] (36 3e4 (100 45e0 [0e8,13e3]) [(164,7e9),(207,3e7),(43,.X [4e1,3e8,1e1]),(6,4e1)])]:=by replace h:=nK h;revert sh h;show 3e1;kernel_rfl
def m_adu(P:PP)(sh:Sh)(h:15e0)(b:MB)(k1:K)(T:0e1)(c q a t:K)(s:19e3)(aD:0e0):fT (vq P sh b k1 (.X [1e5,10e7,1e1]) (0e2::aD) T [6e7])=gw 24e9 (138 b k1 aD 51 [(58,.ag xh)]) [bK (5e2<=a)=true]:=by replace h:=nK h;revert sh h;show 3e1;replace s:=pJ s;revert t s;show 3e1;kernel_rfl
def m_adn(P:PP)(sh:Sh)(h:15e0)(b:MB)(k1:K)(T:0e1)(c q a t:K)(s:19e3)(aD:0e0):fT (vq P sh b k1 (.X [1e5,10e7,1e1]) (0e2::aD) T [1e9,.v 0e6])=gw 24e9 (138 b k1 aD 51 [(58,.ag xi)]) [bK (5e2<=a)=false,16e4=G 0e6]:=by replace h:=nK h;revert sh h;show 3e1;replace s:=pJ s;revert t s;show 3e1;kernel_rfl
def m_adw(P:PP)(sh:Sh)(h:15e0)(b:MB)(k1:K)(T:0e1)(c q a t app:K)(s:Q3 q)(x:19e3)(e:Y6 app)(r:31e4≠q)(aD:0e0):fT (vq P sh b k1 (.X [1e5,10e7,1e1]) (0e2::aD) T [1e9,37e3,37e3])=gw 24e9 (138 b k1 aD 51 [(58,.ag xj)]) [bK (5e2<=a)=false,16e4=34e1,16e4=34e1]:=by replace h:=nK h;revert sh h;show 3e1;replace x:=pJ x;revert t x;show 3e1;replace s:=QN s e r;clear r e;revert q app s;show 13e8;kernel_rfl
def NM(P:PP)(sh:Sh)(h:15e0)(b:MB)(k1:K)(T:0e1)(c a t app:K)(x:19e3)(s:app=0\/app=2\/app=3)(aD:0e0):vq P sh b k1 (.X [1e5,49e5,1e1]) (0e2::aD) T [1e9,37e3,37e3,37e3]=QG 17e1 (100 b aD) T [bK (5e2<=a)=false,16e4=34e1,16e4=34e1,16e4=34e1]:=by replace h:=nK h;revert sh h;show 3e1;replace x:=pJ x;revert t x;show 3e1;replace s:=Y3_m s;revert app s;show 3e1;kernel_rfl
def m_ink(P:PP)(sh:Sh)(h:15e0)(b:MB)(k k1:K)(T:0e1)(q t i app:K)(s:app=0\/app=2)(v:V):45 [4e1,10e7,1e1] [14e8,v] [.ed 46e2 λx x l=> 36 17e1 (100 b [v]) l]=ea (vo sh {b with no:=(b.no++[.X [49e5,6 [v]]])} k1 [v] [] [3e7]) T [P 35 (271 [7e9,3e7,.X [4e1,10e7,1e1]]) (100 b [14e8,v]) [(164,7e9),(207,3e7),(43,.X [4e1,10e7,1e1]),(6,4e1)] (36 17e1 (100 b [v]) [(164,7e9),(207,3e7),(43,.X [4e1,10e7,1e1]),(6,4e1)]),1<=16777216,1<=16777216,b.no.U+1<=16777216,0<=16777216]:=by replace h:=nK h;revert sh h;show 3e1;replace s:=pJ s;revert app s;show 3e1;kernel_rfl
def m_host(P:PP)(sh:Sh)(h:15e0)(b:MB)(k k1:K)(T:0e1)(f:K)(s:f=1\/f=2\/f=3\/f=4)(v:V):45 [4e0,0 f] [v] []=ea (vo sh {b with no:=(b.no++[.X [0 f,6 [v]]])} k1 [v] [] [3e7]) T [1<=16777216,1<=16777216,b.no.U+1<=16777216,0<=16777216]:=by replace h:=nK h;revert sh h;show 3e1;replace s:=QK s;revert f s;show 3e1;kernel_rfl
def m_ldx(P:PP)(sh:Sh)(b:MB)(k k1:K)(T:0e1)(c n a o:K)(s:LU c n\/∃q,LS c n q):93 b [1e5,0e7,12e6] [0e2] [39e5]=148 b (58,2e7) [jP P 32 459 [2 (a+o),0 n,22e8,2e7] 2e7]:=by revert sh;show 4e3;replace s:=QM s;revert c n s;show 13e8;kernel_rfl
def m_ld(P:PP)(sh:Sh)(b:MB)(k k1:K)(T:0e1)(c n a o:K)(xs:4e9)(s:LU c n):45 [1e5,0e7,12e6] [0e2] [13e2,.by xs,240 447 20e4]=40 b [2 20e4] [196 [2 (a+o),0 n,22e8,2e7],50 b.aO (a+o) (a+o+n)=xs,58 P 33 447 [.ei xs] 20e4,1<=16777216]:=by revert sh;show 4e3;replace s:=Ku s;revert c n s;show 13e8;kernel_rfl
def m_lds(P:PP)(sh:Sh)(b:MB)(k k1:K)(T:0e1)(c n q a o:K)(xs:4e9)(s:LS c n q):45 [1e5,0e7,12e6] [0e2] [13e2,.by xs,240 447 20e4,240 105 (m3 20e4 (8*n) q)]=40 b [2 (m3 20e4 (8*n) q)] [196 [2 (a+o),0 n,22e8,2e7],50 b.aO (a+o) (a+o+n)=xs,58 P 33 447 [.ei xs] 20e4,58 P 34 105 [2 20e4,0 (8*n),10e7] (m3 20e4 (8*n) q),1<=16777216]:=by revert sh;show 4e3;replace s:=QL s;revert c n q s;show tab3 _ ?_;kernel_rfl
def m_stx(P:PP)(sh:Sh)(b:MB)(k k1:K)(T:0e1)(c n a v o:K)(s:ST c n):93 b [1e5,0e7,12e6] [2 v,0e2] [39e5]=148 b (58,2e7) [jP P 32 459 [2 (a+o),0 n,22e8,2e7] 2e7]:=by revert sh;show 4e3;replace s:=Bb s;revert c n s;show 13e8;kernel_rfl
def m_st(P:PP)(sh:Sh)(h:15e0)(b:MB)(k k1:K)(T:0e1)(c n a v o:K)(s:ST c n):45 [1e5,0e7,12e6] [2 v,0e2] [13e2]=ea (ek sh {b with aO:=bW b.aO (G (a+o)) (G (a+o+n)) ((36e5).aj λi=>279 (pH n v i))} k1 [] (16 ((36e5).aj λi=> 2 (pH n v i)))) T
  (196 [2 (a+o),0 n,22e8,2e7]::(((36e5).aj λ(i:I)=>a9 .xm (Builtin.i7 v (Kr n)) (8*(i:K))=true)++[(((36e5).aj (pH n v)).dJ (289 (i<256)))=true,b.aO.U+n.aJ<=16777216])):=by
 replace h:=nK h;revert sh h;show 3e1;replace s:=Bb s;revert c n s;show 13e8;kernel_rfl
universe e
section
open PySem PySem.W PyProof.Rows PySem.Calls PySem.Spec PySem.SeqAt
open Builtin hiding id
set_option backward.match.sparseCases false
structure l5(b:MB):Prop where
 m:∀i (f:I->I),(∀j,j<62->f j=j)->f9 f (b.m i)=b.m i
 B:∀f,bQ f b.B=b.B
 T0:∀f,bQ f b.T0=b.T0
 T1:∀f,bQ f b.T1=b.T1
 T2:∀f,bQ f b.T2=b.T2
 no:∀f,bQ f b.no=b.no
 g:∀f,bQ f b.g=b.g
 c2:∀f,cK f b.c2=b.c2
 e0:∀f,cK f b.e0=b.e0
 e1:∀f,cK f b.e1=b.e1
 d0:∀f,cK f b.d0=b.d0
 d1:∀f,cK f b.d1=b.d1
def MB.o8(f:I->I)(b:MB):MB:={b with m:=λi=>f9 f 30e2,B:=bQ f b.B,T0:=bQ f b.T0,T1:=bQ f b.T1,T2:=bQ f b.T2,no:=bQ f b.no,g:=bQ f b.g,c2:=71 b.c2,e0:=71 b.e0,e1:=71 b.e1,d0:=71 b.d0,d1:=71 b.d1}
def MB.Wu{f:I->I}(s:l5 b)(hm:∀i,f9 f 30e2=30e2):b.o8 f=b:=by
 unfold MB.o8;rw[s.B,s.T0,s.T1,s.T2,s.no,s.g,s.c2,s.e0,s.e1,s.d0,s.d1,y5 hm]
def NN(n:I){f:I->I}(s:∀j,j<n->f j=j):(λj=>cC (I.jN j n) j (f j))=f:=y5 λj=>by
 cases h:I.jN j n with
 |true=>exact(s j (I.cz h)).bi
 |false=>rfl
def gm(fV:D I)(n:I):I->I:=λi=>(fV[i]?).ge (n+i)
def kp.sE{fV:D I}{O eV:1e0}{T:0e1}{hP:0e1}(h:fV.aj (λi=>(O[i]?).aj eI)=eV.aj λo=>G (eI (f9 (gm fV O.U) o)))(b:fV.dT)(a:∀k v,19 hP=2e5->∃v2,19e1=G v2/\dG v2=dG (cK (gm fV O.U) v)):kp (gm fV O.U) O eV T hP:=by
 have x:fV.U=eV.U:=by
  have:=bC D.U h;simpa using bb
 show⟨λi o e=>?_,λi s=>?_,λi j s r e=>?_,a⟩
 ·have s:=(117 e);have e2:=bC (·[i]?) h;simp only[D.nY,e,ar.tc]at e2;rw[D.ic (x▸s)]at e2;simp only[ar.tc,ar.G.fu]at e2;have e3:gm fV O.U i=fV[i]'(x▸s):=by unfold gm;rw[D.ic (x▸s)];rfl
  rw[e3];show aN (ar.ha.mp e2) λo2 g1 g2=>?_;exact⟨o2,g1,g2⟩
 ·unfold gm;rw[D.q4 (by exact yo x s)];simp
 ·unfold gm at e;rw[D.ic (x▸s),D.ic (x▸r)]at e;exact(D.getElem_inj b).mp e
def gb.sE{apC:I}{fV:D I}{O eV:1e0}{T:0e1}{hP:0e1}(h:fV.aj (λi=>(O[i]?).aj eI)=eV.aj λo=>G (eI (f9 (gm fV O.U) o)))(b:fV.dT)(e:∀k v,19 hP=2e5->∃v2,19e1=G v2/\dG v2=dG (cK (gm fV O.U) v))(s:fV.fG apC=D.dS apC):gb apC O eV T hP (gm fV O.U):=by
 have a:fV.U=eV.U:=by
  have:=bC D.U h;simpa using bb
 have r:apC<=fV.U:=by
  have:=bC D.U s;simp at bb;lia
 show⟨.sE h b e,λi x=>?_,a▸r⟩;have:=bC (·[i]?) s;simp only[D.NC x,D.ut x]at bb;unfold gm;rw[bb];rfl
def NO(h:n5 d t b apC (62 o) r):n5 d t b apC (62 o') r:=
 λk sc apq B h1 h2 x J aC h0 s Q EE Y e hz p a m apv P=>h k sc apq B h1 h2 x J aC h0 s Q EE Y e hz p a (gP m) apv P
def LM(O:1e0)(apu:K->fj):Prop:=∀dn o2,n5 38 rT my 62 ⟨O,8e1,[]⟩ ((apu dn).mY o2 [])
abbrev MC(sh:Sh)(b:MB)(k:I)(au:0e0)(apu:K->fj):Prop:=LM (i8 sh b k au) apu
def Wv{F:MS}:kT F (5 1018):=17e5
def cast1(k:I):(49e1)=(k:K)+1:=H
def l6{k:I}{au:0e0}{s fL:1e0}{o:K->2e1}{ca:6e1}{f:I->I}{apu:K->fj}(dj:∀dn,125 aw 38 my ⟨i8 sh b k au,8e1,o dn⟩= 57 ⟨s,dK (dn+1),[]⟩ ca)(h:13e1)(x:∀dn,gb 62 s fL 8e1 8e1 f)(e:LM fL apu):MC sh b k au (210 (dn+1)):=by
 intro dn o2;exact Wf (QP aw sh b k au dn) (We (dj dn) h) (x (dn+1)) λo=>NO (e (dn+1) o2)
def Ww(sh:Sh)(b:MB)(k:K)(au:0e0):62<=(i8 sh b k au).U:=by
 cases sh with
 |a=>exact 11e7
 |b s E=>exact I.cz av
def pa{apu:K->fj}(h:MC sh b (k+1) au apu):LM (i8 sh b ((k:K)+1) au) apu:=cast1 k▸h
def wa{ca:6e1}(dj:cG aw sh 1e2 k (k+1) bx au 19e4 o=ea O 19e4 ca)(s:13e1):xL aw sh b k bx au O:=iY dj s Wv
def j1{p q:Prop}(h:p)(s:q):∀x∈ [p,q],x:=24 h s
def kV{p q r:Prop}(h:p)(s:q)(hr:r):∀x∈ [p,q,r],x:=ac h (j1 s hr)
def Wx{k:I}{bx:V}{au b7:0e0}{o:2e1}{ca:6e1}{apu:K->fj}(dj:cG aw sh 1e2 k (k+1) bx au 19e4 o=ea (b1 sh b' (k+1) b7) 19e4 ca)(x:13e1)(hr:m4 b k bx)(hm:iU b' k false)(h:MC sh b' (k+1) b7 apu):MC sh b k au (210 (dn+1)):=by
 have hd:=wa dj x;clear dj;cases sh with
 |a=>exact l6 (λdn=>rU aw .a b b' k dn bx au 55 fC [6e0] b7 []) (kV hr hd hm) (f:=λi=>i) (376 (Ww .a ..)) (pa h)
 |b s E=>exact l6 (λdn=>rU aw (.b s E) b b' k dn bx au 62 s [6e0] b'.g (.au b7::E)) (kV hr hd hm) (f:=λi=>i) (376 (Ww (.b s E) ..)) (pa h)
def NP(h:j<62):gm (43e2++ex) n j=j:=by
 unfold gm;rw[D.kO (by simpa using h),D.ut h];rfl
def C3{f:I->I}(l:1e0):(l.aj λo=>G (eI (f9 f o)))=((l.aj (f9 f)).aj λo=>G (eI o)):=by rw[D.rB];rfl
def all{dn:K}{f:I->I}(s:∀j,j<62->f j=j):∀k v,19 8e1=2e5->∃v2,19 8e1=G v2/\dG v2=dG 15e3:=by
 intro k v e;show⟨v,e,?_⟩;have:=iW e;clear e;simp only[dK,D.eR,kC.mk.fu,D.mn,mo]at bb;rcases bb with⟨_,H⟩|⟨_,H⟩|⟨_,H⟩
 ·exact bC (λv=>dG (.Z v)) (s 51 aq).bi
 ·rfl
 ·rfl
def alm{fV ex:D I}(hs:fV=43e2++ex){O eV:1e0}{dn:K}(x:fV.dT)(h:(∀f:I->I,f=gm fV O.U->(∀j,j<62->f j=j)->fV.aj (λi=>(O[i]?).aj eI)=((eV.aj (f9 f)).aj λo=>G (eI o)))):gb 62 O eV 8e1 8e1 (gm fV O.U):=by
 subst hs;show gb.sE ?_ x (all λj s=>NP s) ?_
 ·rw[C3];exact h _ H λj s=>NP s
 ·rw[D.take_left' (by simp)]
def ni{ex:D I}(a:(43e2++ex).dT){F:0e0}{n:I}{dn:K}(s:l5 b)(fm:21 F F)(apB apC:MB->0e0->1e0)(x:(apC b F).U=n)
  (h:(43e2++ex).aj (λi=>((apC (b.o8 (gm (43e2++ex) n)) (bQ (gm (43e2++ex) n) F))[i]?).aj eI)=(((apB b F).aj (f9 (gm (43e2++ex) n))).aj λo=>G (eI o))):
  gb 62 (apC b F) (apB b F) 8e1 8e1 (gm (43e2++ex) (apC b F).U):=alm H a λf e r=>by
 subst x;rw[fm,MB.Wu s λi=>s.m i _ λj=>NP]at h;exact e▸h
def aln(h3:15e0)(s:l5 b'){k:I}{bx:V}{au b7:0e0}{o:2e1}{ca:6e1}{apu:K->fj}(hs:21 b7 b7)(dj:cG aw sh 1e2 k (k+1) bx au 19e4 o=ea (ek sh b' (k+1) b7 g) 19e4 ca)(x:13e1)(hr:m4 b k bx)(hm:iU b' k false)(h:MC sh b' (k+1) b7 apu):MC sh b k au (210 (dn+1)):=by
 have hd:=wa dj x;clear dj;rcases h3 with H|rfl|rfl
 ·exact l6 (λdn=>rU aw .a b b' k dn bx au 55 fC [6e0] b7 [g]) (kV hr hd hm) (λdn=>ni (ex:=[]) aq s hs (λB S=>i8 .a B (k+1) S) (λB S=>28 55 fC [3e7] (k+1) [6e0] S B [g]) H av) (pa h)
 ·exact l6 (λdn=>rU aw (.b fC []) b b' k dn bx au 62 fC [6e0] b'.g [.au b7,g]) (kV hr hd hm) (λdn=>ni (ex:=[62]) aq s hs (λB S=>i8 (.b fC []) B (k+1) S) (λB S=>28 62 fC [3e7] (k+1) [6e0] B.g B [.au S,g]) H av) (pa h)
 ·exact l6 (λdn=>rU aw (.b hb jq) b b' k dn bx au 62 hb [6e0] b'.g [.au b7,6e4,6e4,g]) (kV hr hd hm) (λdn=>ni (ex:=[62,63,64]) aq s hs (λB S=>i8 (.b hb jq) B (k+1) S) (λB S=>28 62 hb [3e7] (k+1) [6e0] B.g B [.au S,6e4,6e4,g]) H av) (pa h)
def C4{o:K->2e1}{ca:6e1}{f:I->I}{apu:K->fj}(x:∀dn,apy aw 9 38 (.t rT) ⟨O,8e1,[]⟩= 124 6e7 ⟨O,8e1,[]⟩)(dj:∀dn,125 aw 38 my ⟨O,8e1,o dn⟩= 57 ⟨fD,dK (dn+1),[]⟩ ca)(s:13e1)(h:∀dn,gb 62 fD fL 8e1 8e1 f)(e:LM fL apu):LM O (210 (dn+1)):=by
 intro dn o2;exact Wf (x dn) (We (dj dn) s) (h (dn+1)) λo=>NO (e (dn+1) o2)
def C5(s:∀dn,apy aw 9 38 (.t rT) ⟨O,8e1,[]⟩= 124 1e9 ⟨O,8e1,[]⟩):LM O (λdn=> 52 O 8e1):=λdn o2=>aka (s dn) o2
def alo{n d i:I}{b:15e5}{O e:1e0}{T f gc:0e1}{o1 o2:2e1}{ob:6e1}(h:fT (116 aw n d 12e5 O T o1)= .a8 i ⟨e,f,o2⟩ ob)(j:33e3):aw d 12e5 O T (.a8 i e gc):=by
 have S:=hR d n 12e5 29e4;generalize apy aw n d (.ss b) ⟨O,T,o1⟩=r at h S;cases r with
 |aT a F ob=>cases h
 |no w=>cases h
 |a8 z F g=>
  obtain⟨ta,app,t⟩:=F;cases h;exact λR o4 k sc B o x J s Q EE Y v hz l m P=>S k sc B o x J s Q EE Y v hz l (gP m) ⟨j,λaC s' u c q apv r=>P.2 aC s' u c (gP q) apv r⟩
def y6:Sh->Sh
 | .a=> .b fC []
 | .b s E=> .b s E
def fP(sh:Sh)(b:MB)(cO:0e0):MB:=match sh with
 | .a=>{b with g:=cO}
 | .b _ _=>b
def alp(h3:15e0)(s:l5 (fP sh b' cO)){k:I}{bx:V}{au b7:0e0}{o:2e1}{ca:6e1}{apu:K->fj}(hs:21 b7 b7)(dj:cG aw sh 1e2 k (k+1) bx au 19e4 o=ea (vo sh b' (k+1) cO b7 [3e7]) 19e4 ca)(x:13e1)(hr:m4 b k bx)(hm:iU b' k false)(h:MC (y6 sh) (fP sh b' cO) (k+1) b7 apu):MC sh b k au (210 (dn+1)):=by
 have hd:=wa dj x;clear dj;rcases h3 with H|rfl|rfl
 ·exact l6 (λdn=>rU aw .a b b' k dn bx au 62 fC [6e0] cO [.au b7,2e0]) (kV hr hd hm) (λdn=>ni (ex:=[62]) aq s hs (λB S=>i8 (.b fC []) B (k+1) S) (λB S=>28 62 fC [3e7] (k+1) [6e0] B.g B [.au S,2e0]) H av) (pa h)
 ·exact l6 (λdn=>rU aw (.b fC []) b b' k dn bx au 63 fC [6e0] b'.g [32e0,.au b7,2e0]) (kV hr hd hm) (λdn=>ni (ex:=[63]) aq s hs (λB S=>i8 (.b fC []) B (k+1) S) (λB S=>28 63 fC [3e7] (k+1) [6e0] B.g B [32e0,.au S,2e0]) H av) (pa h)
 ·exact l6 (λdn=>rU aw (.b hb jq) b b' k dn bx au 65 hb [6e0] b'.g [32e0,6e4,6e4,.au b7,2e0]) (kV hr hd hm) (λdn=>ni (ex:=[65,63,64]) aq s hs (λB S=>i8 (.b hb jq) B (k+1) S) (λB S=>28 65 hb [3e7] (k+1) [6e0] B.g B [32e0,6e4,6e4,.au S,2e0]) H av) (pa h)
def Wy(h3:15e0){k:I}{bx:V}{au b7:0e0}{C:aI}{dd:0e1}{i:I}{o:2e1}{ca:6e1}(dj:fT (cG aw sh 1e2 k (k+1) bx au 19e4 o)=gw i (138 b' (k+1) b7 C dd) ca)(s:i=(275 (k+1) []).U)(e:13e1)(hr:m4 b k bx):MC sh b k au (λa=> 205 i b' (k+1) b7 C dd []):=by
 have hd:QO aw sh b k bx au i (138 b' (k+1) b7 C dd):=NF dj e Wv;intro dn o2;have x:=alo (gc:=[]) (add aw sh b k dn bx au i _) (j1 hr hd);have h:62<=(138 b' (k+1) b7 C dd).U:=57e1;show aj9 (QP aw sh b k au dn) x (f:=λi=>i) (.id h) H ?_ ?_ o2
 ·rw[s];exact 57e1
 ·rw[s];clear s h x hd e dj;rcases h3 with H|rfl|rfl<;>exact⟨C,dd,H⟩
def alq{k:I}{bx:V}{au b7:0e0}{o:2e1}{ca:6e1}(dj:cG aw sh 1e2 k (k+1) bx au 19e4 o=ea (Kt sh b' (k+1) b7) 19e4 ca)(x:13e1)(hr:m4 b k bx)(hm:iU b' k true):
  ∃S s h aD,(match(generalizing:=false) sh with| .a=>S=55/\s=fC/\h=b7/\aD=[]| .b k2 E=>S=62/\s=k2/\h=b'.g/\aD= .au b7::E)/\MC sh b k au (λdn=> 52 (28 S s [] (k+1) [] h b' aD) (dK (dn+1))):=by
 have hd:=wa dj x;clear dj;have cR:∀S s h aD,Kt sh b' (k+1) b7=dE S s [3e7] (k+1) [] h true b' aD->MC sh b k au (λdn=> 52 (28 S s [] (k+1) [] h b' aD) (dK (dn+1))):=by
  intro S s h aD e;rw[e]at hd;show l6 (λdn=>adc aw sh b b' k dn bx au S s [] h aD) (kV hr hd hm) (f:=λi=>i) (376 (I.cz av)) (apu:=λdn=> 52 (28 S s [] (k+1) [] h b' aD) 8e1) (C5 λdn=>Bd aw S s (k+1) [] h false b' aD dn)
 clear hd;cases sh with
 |a=>exact⟨_,_,_,_,⟨H,H,H,H⟩,cR _ _ _ _ H⟩
 |b s E=>exact⟨_,_,_,_,⟨H,H,H,H⟩,cR _ _ _ _ H⟩
def alr(h3:15e0)(h:l5 (fP sh b' cO)){k:I}{bx:V}{au:0e0}{o:2e1}{ca:6e1}(dj:cG aw sh 1e2 k (k+1) bx au 19e4 o=ea (xI sh b' (k+1) cO) 19e4 ca)(e:13e1)(hr:m4 b k bx):
  ∃x aD,(x=fC/\aD=[]\/x=hb/\aD=jq)/\MC sh b k au (λdn=> 52 (28 62 x [] (k+1) [6e0] (fP sh b' cO).g (fP sh b' cO) (20e1::aD)) (dK (dn+1))):=by
 have hd:=wa dj e;clear dj;rcases h3 with H|rfl|rfl
 ·exact⟨fC,[],.a4 15e2,l6 (λdn=>Kv aw .a b b' k dn bx au 63 fC [6e0] cO [44e3,20e1,2e0]) (j1 hr hd) (λdn=>ni (F:=[]) (ex:=[63]) aq h 45e3 (λB s=>28 62 fC [] (k+1) [6e0] B.g B [20e1]) (λB s=>28 63 fC [] (k+1) [6e0] B.g B [44e3,20e1,2e0]) H av) (apu:=λdn=> 52 (28 62 fC [] (k+1) [6e0] (fP .a b' cO).g (fP .a b' cO) [20e1]) 8e1) (C5 λdn=>Bd aw _ _ _ _ _ _ _ _ dn)⟩
 ·exact⟨fC,[],.a4 15e2,l6 (λdn=>Kv aw (.b fC []) b b' k dn bx au 64 fC [6e0] b'.g [32e0,44e3,20e1,2e0]) (j1 hr hd) (λdn=>ni (F:=[]) (ex:=[64]) aq h 45e3 (λB s=>28 62 fC [] (k+1) [6e0] B.g B [20e1]) (λB s=>28 64 fC [] (k+1) [6e0] B.g B [32e0,44e3,20e1,2e0]) H av) (apu:=λdn=> 52 (28 62 fC [] (k+1) [6e0] b'.g b' [20e1]) 8e1) (C5 λdn=>Bd aw _ _ _ _ _ _ _ _ dn)⟩
 ·exact⟨hb,jq,.aE 15e2,l6 (λdn=>Kv aw (.b hb jq) b b' k dn bx au 66 hb [6e0] b'.g [32e0,6e4,6e4,44e3,20e1,2e0]) (j1 hr hd) (λdn=>ni (F:=[]) (ex:=[66,63,64]) aq h 45e3 (λB s=>28 62 hb [] (k+1) [6e0] B.g B [20e1,6e4,6e4]) (λB s=>28 66 hb [] (k+1) [6e0] B.g B [32e0,6e4,6e4,44e3,20e1,2e0]) H av) (apu:=λdn=> 52 (28 62 hb [] (k+1) [6e0] b'.g b' [20e1,6e4,6e4]) 8e1) (C5 λdn=>Bd aw _ _ _ _ _ _ _ _ dn)⟩
def NQ(s:l5 b){apu:K->fj}(hm:iU b k false)(a:LM (i8 (.b hb jq) {b with gv:=b.gv+4} ((k:K)+1) [2 (325 fb b.e9)]) apu):LM (mC 0 b ((k:K)+1) [] fa fb) (210 (dn+4)):=by
 rw[show({b with gv:=b.gv+4}:MB)=aG (aG (aG 1e2))from bC (λn=>{b with gv:=n}) (by lia:b.gv+4=b.gv+1+1+1+1)]at a;rw[show(210 (dn+4))=λdn=>apu (dn+1+1+1+1)from y5 λdn=>bC apu bN];have h:∀(jE:K) (b:MB) (au:0e0),62<=(mC jE b ((k:K)+1) au fa fb).U:=λe e e=>I.cz av;have ej:∀{p:Prop},p->∀x∈ [p],x:=λr=>39 r;show C4 (apu:=λdn=>apu (dn+1+1+1)) (λdn=>Bc aw 0 b _ [] fa fb dn) (λdn=>ade aw b _ dn fa fb) (ej aq) (f:=λi=>i) (376 (h 1 _ _)) ?_;show C4 (apu:=λdn=>apu (dn+1+1)) (λdn=>Bc aw 1 1e2 _ _ fa fb dn) (λdn=>adf aw 1e2 _ dn fa fb) (ej aq) (f:=λi=>i) (376 (h 2 _ _)) ?_;show C4 (apu:=λdn=>apu (dn+1)) (λdn=>Bc aw 2 (aG 1e2) _ _ fa fb dn) (λdn=>adg aw (aG 1e2) _ dn fa fb) (j1 (Wj (d:=32)) aq) (f:=λi=>i) (376 (h 3 _ _)) ?_;exact C4 (λdn=>Bc aw 3 _ _ _ fa fb dn) (λdn=>adh aw (aG (aG 1e2)) k dn _ fa fb) (ej hm) (λdn=>ni (b:=aG (aG (aG 1e2))) (F:=[2 (325 fb b.e9)]) (ex:=[62,63,64]) aq ⟨s.m,s.B,s.T0,s.T1,s.T2,s.no,s.g,s.c2,s.e0,s.e1,s.d0,s.d1⟩ 45e3 (λB S=>i8 (.b hb jq) B ((k:K)+1) S) (λB S=>28 62 hb [3e7] ((k:K)+1) [6e0] B.g B [.au S,6e4,6e4,vn 63 64 67 4 fa fb,vp,2e0]) H av) a
def ix(g:I)(b:MB)(oc:0e0)(en:V)(au apt:0e0):1e0:=match g with
 |1=>dc b apt en au
 |2=>149 {b with T0:=apt} au
 |3=>149 {b with T1:=apt} au
 |_=>149 {b with T2:=apt} au
def G4(g:I):Prop:=g=1\/g=2\/g=3\/g=4
def nj(g:I)(a n s:K)(S w:V):0e1:=[(88,.Z g),(42,0e2),(137,S),(49,0e8),(9,0e3),(58,w)]
def C6:15e5:=match Qj.cX with
 | [_,.mr _ _ b,_]=>b
 |_=>[]
def Wz:Tk->al:=λtk=>match tk with
 | .gj _ _ _ _=>true
 |_=>false
def als(P:PP)(d:I)(g:I)(h:G4 g)(b:MB)(oc:0e0)(en:V)(au apt:0e0)(a n s:K)(S w v:V)(k:I):apy P 20 d (.ss C6) ⟨ix g b oc en au apt,nj g a n s S w++[(99,0 k),(60,v)],[]⟩= 57 ⟨ix g b oc en au (apt.cN (a+k).aJ v),nj g a n s S w++[(99,0 k),(60,v)],[]⟩ [bK (0<=a+k/\a+k<apt.U)=true]:=by rcases h with H|rfl|rfl|rfl<;>kernel_rfl
def mv:0e0->I->0e0->0e0
 |apt,_,[]=>apt
 |apt,i,v::r=>mv (apt.cN i v) (i+1) r
def WA(r:0e0):∀(apt:0e0) (i:I),i+r.U<=apt.U->mv apt i r=apt.fG i++r++apt.fh (i+r.U):=by
 induction r with
 |aR=>
  intro apt i h;refine apt=apt.fG i++[]++apt.fh i;rw[D.dZ,D.Jx]
 |aQ v r x=>
  intro apt i h;have s:i<apt.U:=I.mF (I.aiO (I.succ_pos _)) h;refine mv (apt.cN i v) (i+1) r=apt.fG i++v::r++apt.fh (i+(r.U+1));have e1:(apt.cN i v).fG (i+1)=apt.fG i++[v]:=by
   rw[D.take_set,D.take_succ_eq_append_getElem s];rw[D.afv _ _ (by rw[D.qQ];exact I.K1 i apt.U),D.qQ,I.NR (I.jx s),I.jj];rfl
  have e2:(apt.cN i v).fh (i+1+r.U)=apt.fh (i+1+r.U):=by
   rw[D.drop_set,eX bN]
  rw[x _ _ (by rw[D.vM,I.TQ];exact h),e1,e2,D.eO (apt.fG i),I.TQ];rfl
def wb{α:Type}{m:34e6}{k:I}{v:α}{l:34e6}:19 l=2e5->19 (l++m)=2e5:=by
 induction l with
 |aR=>exact nS
 |aQ p l s=>
  intro h;rw[D.NS];rw[nQ]at h⊢;cases e:I.bY p.1 k with
  |true=>rw[e]at h;exact h
  |false=>rw[e]at h;exact s h
def WB{d g:I}(q:G4 g){b:MB}{oc:0e0}{en:V}{au:0e0}{a n s:K}{S w:V}(SL:0e0)(u:0<=a):∀(r:0e0) (k:I) (apt:0e0),SL.fh k=r->a+SL.U<=apt.U->
  aw d (.gj (.t [99,60]) (.gL (.fA SL)) k C6) (ix g b oc en au apt) (nj g a n s S w) (52 (ix g b oc en au (mv apt (a.aJ+k) r)) (nj g a n s S w)):=by
 intro r;induction r with
 |aR=>
  intro k apt e x;show NE λF=>?_;refine G (SL[k]?.aj λv=>V.X [0 k,v])=G L;have:SL[k]? =L:=by
   have:=bC D.U e;simp at bb;exact D.q4 (by exact D.drop_eq_nil_iff.mp e)
  rw[bb];rfl
 |aQ v r ih=>
  intro k apt e x;have p:SL[k]? =2e5:=by
   have:=bC (·[0]?) e;simpa using bb
  have l:=(117 p);have e2:SL.fh (k+1)=r:=by
   have:=bC D.mj e;simpa [D.tail_drop]using bb
  show yY (v:= .X [0 k,v]) (o9:=nj g a n s S w++[(99,0 k),(60,v)]) (n7:=ix g b oc en au (apt.cN (a.aJ+k) v)) (n8:=nj g a n s S w) (λF=>?_) (λo=>cI) ?_ ?_
  ·refine G (SL[k]?.aj λv=>V.X [0 k,v])=_;rw[p];rfl
  ·have h:=v9 (a3:= 24e4) (f:=λi=>i) (fL:=ix g b oc en au (apt.cN (a+k).aJ v)) (gc:=nj g a n s S w) (als aw d g q b oc en au apt a n s S w v k) (39 (eE bN)) ?_
   ·have e3:(a+k).aJ=a.aJ+k:=by exact K.alt u k
    rw[e3]at h;exact h
   ·show⟨⟨λi o e=>⟨o,e,by rw[uu]⟩,λi h=>h,λi j m m h=>h,λc v2 e=>⟨v2,?_,by rw[n6]⟩⟩,λi m=>rfl,?_⟩
    ·exact wb e
    ·rcases q with H|rfl|rfl|rfl<;>exact I.eC _
  ·have:=ih (k+1) (apt.cN (a.aJ+k) v) e2 (by rw[D.vM];exact x);exact bb
def alu(P:PP)(d g:I)(e:G4 g)(b:MB)(oc:0e0)(en:V)(au apt h:0e0)(a n s:K)(S:0e0)(w:V)(T:0e1):apy P 40 (d+1) (216 [.Z g,0e2,4e5,0e8,0e3,w]) ⟨ix g b oc en au apt,T,[1e9,1e9,.ed Wz λx x x=> 52 (ix g b oc en au h) (nj g a n s 4e5 w)]⟩=
  .aT (.v 0e6) ⟨ix g b oc en au h,T,[]⟩ [bK ((S.U:K)<s+n)=false,bK (40e4<a+n)=false,(50 S s (s+n)).U<=16777216,P d (.gj (.t [99,60]) (.gL (.fA (50 S s (s+n)))) 0 C6) (ix g b oc en au apt) (nj g a n s 4e5 w) (52 (ix g b oc en au h) (nj g a n s 4e5 w))]:=by rcases e with H|rfl|rfl|rfl<;>kernel_rfl
def alv(P:PP)(d:I)(b:MB)(oc:0e0)(en:V)(au apt h:0e0)(a n s:K)(w:V)(T:0e1):apy P 40 (d+1) (216 [10e0,0e2,10e0,0e8,0e3,w]) ⟨ix 1 b oc en au apt,T,[1e9,1e9,.ed Wz λx x x=> 52 (ix 1 b oc en au h) (nj 1 a n s 10e0 w)]⟩=
  .aT (.v 0e6) ⟨ix 1 b oc en au h,T,[]⟩ [bK (40e4<s+n)=false,bK (40e4<a+n)=false,(50 apt s (s+n)).U<=16777216,P d (.gj (.t [99,60]) (.gL (.fA (50 apt s (s+n)))) 0 C6) (ix 1 b oc en au apt) (nj 1 a n s 10e0 w) (52 (ix 1 b oc en au h) (nj 1 a n s 10e0 w))]:=av
def alw(P:PP)(d g:I)(h:G4 g)(b:MB)(oc:0e0)(en:V)(au apt:0e0)(a n s:K)(S:0e0)(w:V)(T:0e1)(q:al):apy P 40 (d+1) (216 [.Z g,0e2,4e5,0e8,0e3,w]) ⟨ix g b oc en au apt,T,match q with|true=>[6e7]|false=>[1e9,6e7]⟩=
  .aT (.v w) ⟨ix g b oc en au apt,T,[]⟩ (match q with|true=>[bK ((S.U:K)<s+n)=true]|false=>[bK ((S.U:K)<s+n)=false,bK (40e4<a+n)=true]):=by cases q<;>rcases h with H|rfl|rfl|rfl<;>kernel_rfl
def alx(P:PP)(d:I)(b:MB)(oc:0e0)(en:V)(au apt:0e0)(a n s:K)(w:V)(T:0e1)(q:al):apy P 40 (d+1) (216 [10e0,0e2,10e0,0e8,0e3,w]) ⟨ix 1 b oc en au apt,T,match q with|true=>[6e7]|false=>[1e9,6e7]⟩=
  .aT (.v w) ⟨ix 1 b oc en au apt,T,[]⟩ (match q with|true=>[bK (40e4<s+n)=true]|false=>[bK (40e4<s+n)=false,bK (40e4<a+n)=true]):=by cases q<;>kernel_rfl
def NT{i:K}{n:I}(h0:0<=i)(h:i<=n):xp i n=i.aJ:=by
 unfold xp kL;rw[d6 (K.dv.bn h0),K.NR h,K.Lr h0]
def WC{i:K}{n:I}{k:K}(h0:0<=i)(s:0<=k)(h:i+k<=n):ve (G i) n=i.aJ:=NT h0 (K.dW (K.le_add_of_nonneg_right s) h)
def WD{i:K}{n:I}{k:K}(h0:0<=i)(s:0<=k)(h:i+k<=n):xq (G (i+k)) n=i.aJ+k.aJ:=(NT (K.Wn h0 s) h).aV (K.WE h0 s)
def NU{i:K}{n:I}{k:K}(h0:0<=i)(s:0<=k)(h:i+k<=n):i.aJ+k.aJ<=n:=by
 rw[<-K.WE h0 s];exact K.qx.bn h
def mO{α:Type}(S:8e4){s n:K}(hs:0<=s)(x:0<=n)(h:s+n<=S.U):50 S s (s+n)=(S.fh s.aJ).fG n.aJ/\(50 S s (s+n)).U=n.aJ:=by
 have e:50 S s (s+n)=(S.fh s.aJ).fG n.aJ:=by
  unfold bE;rw[WC hs x h,WD hs x h,I.add_sub_cancel_left]
 show⟨e,?_⟩;rw[e,D.qQ,D.sf];exact I.NR (I.le_sub_of_add_le' (NU hs x h))
def NV{α:Type}(apt m:8e4){a n:K}(x:0<=a)(s:0<=n)(h:a+n<=apt.U)(hm:m.U=n.aJ):204 apt m=apt.fG a.aJ++m++apt.fh (a.aJ+m.U):=by
 unfold bW;rw[WC x s h,WD x s h,I.Lr (I.tS ..),hm]
def WF{a n:K}{l r:I}(x:0<=a)(h:a+n<=l)(s:0<=n)(hr:r=n.aJ):a.aJ+r<=l:=by
 rw[hr,<-K.WE x s];exact K.qx.bn h
def WG{apt S:0e0}{a n s:K}(e:0<=a)(hs:0<=s)(h:0<=n)(b:s+n<=S.U)(h2:a+n<=apt.U):mv apt a.aJ (50 S s (s+n))=235 apt S:=by
 have x:=(mO S hs h b).2;rw[WA _ _ _ (WF e h2 h x),NV apt _ e h h2 x]
def C7{F:MS}:kT F (5 1420):=17e5
def C8{d g:I}(m:G4 g){b:MB}{oc:0e0}{en:V}{au apt S:0e0}{a n s:K}{t t2:al}{w:V}{T:0e1}(e:0<=a)(hs:0<=s)(k:0<=n)(h:s+n<=S.U)(h2:a+n<=apt.U)(v:106 n):
  122 (d+1) (216 [.Z g,0e2,.ad S t,.y s t2,0e3,w]) (ix g b oc en au apt) T 0e6 (ix g b oc en au (235 apt S)) T:=by
 have x:=(mO S hs k h).2;show uv (as:=[.Z g,0e2,4e5,0e8,0e3,w]) (λp p p r=>v7 cI r) (iY (alu aw d g m b oc en au apt _ a n s S w T) (27 (127 h) (127 h2) ?_ ?_) C7)
 ·rw[x];exact K.qx.bn v
 ·rw[<-WG e hs k h h2];have:=WB (d:=d) m (b:=b) (oc:=oc) (en:=en) (au:=au) (a:=a) (n:=n) (s:=s) (S:= 4e5) (w:=w) (50 S s (s+n)) e _ 0 apt H (by rw[x];lia);exact bb
def aly{d:I}{b:MB}{oc:0e0}{en:V}{au apt:0e0}{a n s:K}{w:V}{T:0e1}(e:0<=a)(hs:0<=s)(r:0<=n)(h:s+n<=apt.U)(h2:a+n<=apt.U)(p:106 n):
  122 (d+1) (216 [10e0,0e2,10e0,0e8,0e3,w]) (dc b apt en au) T 0e6 (dc b (235 apt apt) en au) T:=by
 have x:=(mO apt hs r h).2;show iY (alv aw d b oc en au apt _ a n s w T) (27 (127 h) (127 h2) ?_ ?_) C7
 ·rw[x];exact K.qx.bn p
 ·rw[<-WG e hs r h h2];exact WB (d:=d) 2e6 (b:=b) (oc:=oc) (en:=en) (au:=au) (a:=a) (n:=n) (s:=s) (S:= 10e0) (w:=w) (50 apt s (s+n)) e _ 0 apt H (by rw[x];lia)
def wc{d g:I}(k:G4 g){b:MB}{oc:0e0}{en:V}{au apt S:0e0}{a n s:K}{t t2:al}{w:V}{T:0e1}(h:¬(s+n<=S.U/\a+n<=apt.U)):
  122 (d+1) (216 [.Z g,0e2,.ad S t,.y s t2,0e3,w]) (ix g b oc en au apt) T w (ix g b oc en au apt) T:=by
 show uv (as:=[.Z g,0e2,4e5,0e8,0e3,w]) (λe e e r=>v7 cI r) (iY (alw aw d g k b oc en au apt a n s S w T (decide ((S.U:K)<s+n))) (λp x=>?_) C7)
 ·by_cases q:(S.U:K)<s+n
  ·rw[eE q]at x;exact ac H a6 p x
  ·rw[fX q]at x;exact ac H (39 (eE bN)) p x
def WH{d:I}{b:MB}{oc:0e0}{en:V}{au apt:0e0}{a n s:K}{w:V}{T:0e1}(h:¬(s+n<=apt.U/\a+n<=apt.U)):
  122 (d+1) (216 [10e0,0e2,10e0,0e8,0e3,w]) (dc b apt en au) T w (dc b apt en au) T:=by
 show iY (alx aw d b oc en au apt a n s w T (decide (40e4<s+n))) (λp x=>?_) C7;by_cases q:40e4<s+n
 ·rw[eE q]at x;exact ac H a6 p x
 ·rw[fX q]at x;exact ac H (39 (eE bN)) p x
universe e
section
open PySem PySem.W
set_option backward.match.sparseCases false
def WI(P:PP)(b:MB)(T:0e1)(n:K)(aD:0e0):177 [5e8,0e3] aD=46 b (2 (n.ah 4294967296)::aD) [9 n 4294967296=true,aD.U+1<=16777216]:=av
def alz(P:PP)(b:MB)(T:0e1)(n:K)(aD:0e0):177 [21e4,0e3] aD=46 b (2 (n.ah 18446744073709551616)::aD) [361 n=true,aD.U+1<=16777216]:=av
def alA(P:PP)(b:MB)(T:0e1)(n:K)(aD:0e0):177 [0 208,0e3] aD=46 b (0e6::aD) 25e2:=av
def alB(P:PP)(b:MB)(T:0e1)(n v:K)(aD:0e0):55 [0 210,0e3] aD [.v (0 v)]=46 b (0 v::aD) [(dq [1e3,1e8,0e7,10e8,3e8,3e4] n)=G (0 v),aD.U+1<=16777216]:=av
def alC(P:PP)(b:MB)(T:0e1)(aD:0e0):177 [29e0,0e7] aD=46 b (0 9::aD) 25e2:=av
def alD(P:PP)(b:MB)(T:0e1)(aD:0e0):177 [43e3] (0e6::aD)=46 b (1e3::aD) 25e2:=av
def alE(P:PP)(b:MB)(T:0e1)(v:K)(aD:0e0):177 [43e3] (0 v::aD)=46 b (0e7::aD) 25e2:=av
def alF(P:PP)(b:MB)(T:0e1)(aD:0e0):177 [16e3,0e7] aD=46 b (31e3::aD) 25e2:=av
def alG(P:PP)(b:MB)(T:0e1)(aD:0e0):177 [16e3,1e3] aD=46 b (31e2::aD) 25e2:=av
def alH(P:PP)(b:MB)(T:0e1)(aD:0e0):177 [16e3,1e8] aD=46 b (b.c2::aD) 25e2:=av
def alI(P:PP)(b:MB)(T:0e1)(v:K)(aD:0e0):177 [21e3,0e7] (2 v::aD)=46 {b with c0:=v} aD []:=av
def alJ(P:PP)(b:MB)(T:0e1)(v:K)(aD:0e0):177 [21e3,1e3] (2 v::aD)=46 {b with c1:=v} aD []:=av
def alK(P:PP)(b:MB)(T:0e1)(v:V)(aD:0e0):177 [21e3,1e8] (v::aD)=46 {b with c2:=v} aD []:=av
def alL(P:PP)(b:MB)(T:0e1):55 [0 63] [] [1e9]=201 b (4e2++[]) [2 ((41e6).aL 16)] T [15 41e6 16=true,bK ((2:K)<(((41e6).aL 16)+0))=false,((4e2++[])).U<=16777216,1<=16777216]:=av
def alM(P:PP)(b:MB)(T:0e1)(n:K):55 [17e2] [0e3] [6e7]=46 b [44e8] [15 41e6 16=true,bK ((2:K)<(((41e6).aL 16)+n))=true,1<=16777216]:=av
def alN(P:PP)(b:MB)(T:0e1)(n:K):55 [17e2] [0e3] [1e9]=201 b (4e2++(412 (n*16))) [2 ((41e6).aL 16)] T [15 41e6 16=true,bK ((2:K)<(((41e6).aL 16)+n))=false,a9 .f4 n 16=true,jM (n*16)=true,((412 (n*16))).U<=16777216,((4e2++(412 (n*16)))).U<=16777216,1<=16777216]:=av
def alO(P:PP)(b:MB)(T:0e1)(n s a:K):55 [16e1] [0e3,0e8,0e2] [268 2e7 b]=150 2e7 b [] T [9 s 256=true,jM n=true,(47e9).U<=16777216,P 37 (216 [10e0,0e2,49e7,0e7,0e3,2e7]) 35e6 [(98,6e3),(131,.X [16e1]),(132,10e6),(6,16e1),(113,8 [13e5,13e6,13e7]),(9,0e3),(139,0e8),(42,0e2),(137,49e7),(49,0e7)] (36 2e7 35e6 [(98,6e3),(131,.X [16e1]),(132,10e6),(6,16e1),(113,8 [13e5,13e6,13e7]),(9,0e3),(139,0e8),(42,0e2),(137,49e7),(49,0e7)])]:=av
def alP(P:PP)(b:MB)(T:0e1)(n s a:K):55 [16e1] [0e3,0e8,0e2] [407 (85 b (bW 4e2 (G a) (G (a+n)) (50 47e9 0 ((0:K)+n))) [])]=201 b (bW 4e2 (G a) (G (a+n)) (50 47e9 0 ((0:K)+n))) [] T [9 s 256=true,jM n=true,(47e9).U<=16777216,P 37 (216 [10e0,0e2,49e7,0e7,0e3,2e7]) 35e6 [(98,6e3),(131,.X [16e1]),(132,10e6),(6,16e1),(113,8 [13e5,13e6,13e7]),(9,0e3),(139,0e8),(42,0e2),(137,49e7),(49,0e7)] (36 0e6 (85 b (bW 4e2 (G a) (G (a+n)) (50 47e9 0 ((0:K)+n))) []) [(98,6e3),(131,.X [16e1]),(132,10e6),(6,16e1),(113,8 [13e5,13e6,13e7]),(9,0e3),(139,0e8),(42,0e2),(137,49e7),(49,0e7)])]:=av
def WJ(P:PP)(b:MB)(T:0e1)(n s a:K):55 [20e8] [0e3,0e8,0e2] [268 2e7 b]=150 2e7 b [] T [P 37 (216 [10e0,0e2,10e0,0e8,0e3,2e7]) 35e6 [(98,6e3),(131,.X [20e8]),(132,10e6),(6,20e8),(113,8 [13e5,13e6,13e7]),(9,0e3),(139,0e8),(42,0e2),(137,10e0),(49,0e8)] (36 2e7 35e6 [(98,6e3),(131,.X [20e8]),(132,10e6),(6,20e8),(113,8 [13e5,13e6,13e7]),(9,0e3),(139,0e8),(42,0e2),(137,10e0),(49,0e8)])]:=av
def alQ(P:PP)(b:MB)(T:0e1)(n s a:K):55 [20e8] [0e3,0e8,0e2] [407 (85 b (246 4e2) [])]=201 b (246 4e2) [] T [P 37 (216 [10e0,0e2,10e0,0e8,0e3,2e7]) 35e6 [(98,6e3),(131,.X [20e8]),(132,10e6),(6,20e8),(113,8 [13e5,13e6,13e7]),(9,0e3),(139,0e8),(42,0e2),(137,10e0),(49,0e8)] (36 0e6 (85 b (246 4e2) []) [(98,6e3),(131,.X [20e8]),(132,10e6),(6,20e8),(113,8 [13e5,13e6,13e7]),(9,0e3),(139,0e8),(42,0e2),(137,10e0),(49,0e8)])]:=av
def WK(P:PP)(b:MB)(T:0e1)(i:K)(h:16e0)(n s a:K)(dt:4e9):263 P 23e2 [8e6,6e5] [0e3,0e8,0e2] [6e7,268 2e7 23e2]=150 2e7 23e2 [] T [(!(dt).jL)=true,mA P (118 23e2) (118 23e2) 2e7 [10e0,0e2,6 45e8,0e8,0e3,2e7] [(98,6e3),(131,.X [8e6,6e5]),(132,10e6),(6,8e6),(113,8 [13e5,13e6,13e7]),(9,0e3),(139,0e8),(42,0e2),(137,6 45e8),(49,0e8)]]:=by replace h:=mz h;revert i h;show 3e1;kernel_rfl
def alR(P:PP)(b:MB)(T:0e1)(i:K)(h:16e0)(n s a:K)(dt:4e9):263 P 23e2 [8e6,6e5] [0e3,0e8,0e2] [6e7,407 (85 23e2 (246 45e8) [])]=201 23e2 (246 45e8) [] T [(!(dt).jL)=true,mA P (118 23e2) (85 23e2 (246 45e8) []) 0e6 [10e0,0e2,6 45e8,0e8,0e3,2e7] [(98,6e3),(131,.X [8e6,6e5]),(132,10e6),(6,8e6),(113,8 [13e5,13e6,13e7]),(9,0e3),(139,0e8),(42,0e2),(137,6 45e8),(49,0e8)]]:=by replace h:=mz h;revert i h;show 3e1;kernel_rfl
def WL(P:PP)(b:MB)(T:0e1)(i:K)(h:16e0)(n s a:K):263 P 19e8 [8e6,6e5] [0e3,0e8,0e2] [268 2e7 19e8]=150 2e7 19e8 [] T [mA P (118 19e8) (118 19e8) 2e7 [10e0,0e2,40e8,0e8,0e3,2e7] [(98,6e3),(131,.X [8e6,6e5]),(132,10e6),(6,8e6),(113,8 [13e5,13e6,13e7]),(9,0e3),(139,0e8),(42,0e2),(137,40e8),(49,0e8)]]:=by replace h:=mz h;revert i h;show 3e1;kernel_rfl
def alS(P:PP)(b:MB)(T:0e1)(i:K)(h:16e0)(n s a:K):263 P 19e8 [8e6,6e5] [0e3,0e8,0e2] [407 (85 19e8 (246 27e2) [])]=201 19e8 (246 27e2) [] T [mA P (118 19e8) (85 19e8 (246 27e2) []) 0e6 [10e0,0e2,40e8,0e8,0e3,2e7] [(98,6e3),(131,.X [8e6,6e5]),(132,10e6),(6,8e6),(113,8 [13e5,13e6,13e7]),(9,0e3),(139,0e8),(42,0e2),(137,40e8),(49,0e8)]]:=by replace h:=mz h;revert i h;show 3e1;kernel_rfl
def alT(P:PP)(b:MB)(T:0e1)(i:K)(s:16e0):177 [48e7,6e5] []=46 19e8 [] []:=by replace s:=mz s;revert i s;show 3e1;kernel_rfl
def alU(P:PP)(b:MB)(T:0e1)(t:K)(s:7e3)(a:K)(v:V):55 [38e2,1e1] [0e2] [6e7]=150 3e9 b [] T [bK (5e2<=a)=true]:=by replace s:=20e6;revert t s;show 3e1;kernel_rfl
def alV(P:PP)(b:MB)(T:0e1)(t:K)(s:7e3)(a:K)(v:V):55 [38e2,1e1] [0e2] [1e9,.v v]=46 b [v] [bK (5e2<=a)=false,16e4=2e5,1<=16777216]:=by replace s:=20e6;revert t s;show 3e1;kernel_rfl
def alW(P:PP)(b:MB)(T:0e1)(t:K)(s:7e3)(a:K)(v:V):55 [0 38,1e1] [v,0e2] [6e7]=150 3e9 b [] T [bK (5e2<=a)=true]:=by replace s:=20e6;revert t s;show 3e1;kernel_rfl
def alX(P:PP)(b:MB)(T:0e1)(t:K)(s:7e3)(a:K)(v:V):55 [0 38,1e1] [v,0e2] [1e9]=46 (226 (D.cN 10e3 (a).aJ v)) [] [bK (5e2<=a)=false,bK (0<=a/\a<5e2)=true]:=by replace s:=20e6;revert t s;show 3e1;kernel_rfl
def alY(P:PP)(b:MB)(T:0e1)(t:K)(s:7e3):177 [48e8,1e1] []=46 b [20e9] (286 1):=by replace s:=20e6;revert t s;show 3e1;kernel_rfl
def alZ(P:PP)(b:MB)(T:0e1)(t:K)(s:7e3)(n:K)(v:V):55 [39e3,1e1] [0e3,v] [6e7]=46 b [44e8] [15 5e2 1=true,bK (lm t<(((5e2).aL 1)+n))=true,1<=16777216]:=by replace s:=20e6;revert t s;show 3e1;kernel_rfl
def al0(P:PP)(b:MB)(T:0e1)(t:K)(s:7e3)(n:K)(v:V):55 [39e3,1e1] [0e3,v] [1e9]=46 (226 (10e3++(404 (n*1)))) [2 ((5e2).aL 1)] [15 5e2 1=true,bK (lm t<(((5e2).aL 1)+n))=false,a9 .f4 n 1=true,jM (n*1)=true,((404 (n*1))).U<=16777216,((10e3++(404 (n*1)))).U<=16777216,1<=16777216]:=by replace s:=20e6;revert t s;show 3e1;kernel_rfl
def al1(P:PP)(b:MB)(T:0e1)(t:K)(s:7e3)(n a:K)(v:V):55 [33e6,1e1] [0e3,v,0e2] [6e7]=150 3e9 b [] T [bK (5e2<(a+n))=true]:=by replace s:=20e6;revert t s;show 3e1;kernel_rfl
def al2(P:PP)(b:MB)(T:0e1)(t:K)(s:7e3)(n a:K)(v:V):55 [33e6,1e1] [0e3,v,0e2] [1e9,268 0e6 (226 (bW 10e3 (G a) (G (a+n)) (50 35e7 0 ((0:K)+n))))]=46 (226 (bW 10e3 (G a) (G (a+n)) (50 35e7 0 ((0:K)+n)))) [] [bK (5e2<(a+n))=false,jM n=true,(35e7).U<=16777216,mA P 35e6 (118 (226 (bW 10e3 (G a) (G (a+n)) (50 35e7 0 ((0:K)+n))))) 0e6 [.Z (t.aJ+2),0e2,6 35e7,0e7,0e3,.ag Qg] [(98,6e3),(131,.X [33e6,1e1]),(132,10e6),(6,33e6),(113,8 [13e5,13e6,13e7]),(9,0e3),(139,v),(42,0e2),(88,.Z (t.aJ+2))]]:=by replace s:=20e6;revert t s;show 3e1;kernel_rfl
def WM(P:PP)(b:MB)(T:0e1)(x app:K)(h:CP x app)(n s a:K):55 [28e7,0 x,17e1] [0e3,0e8,0e2] [268 3e9 b]=150 3e9 b [] T [(18e5).U<=16777216,mA P 35e6 35e6 3e9 [.Z (x.aJ+2),0e2,6 18e5,0e8,0e3,3e9] [(98,6e3),(131,.X [28e7,0 x,17e1]),(132,10e6),(6,28e7),(113,8 [13e5,13e6,13e7]),(9,0e3),(139,0e8),(42,0e2),(88,.Z (x.aJ+2)),(137,6 18e5)]]:=by replace h:=xK h;revert x app h;show 13e8;kernel_rfl
def al3(P:PP)(b:MB)(T:0e1)(x app:K)(h:CP x app)(n s a:K):55 [28e7,0 x,17e1] [0e3,0e8,0e2] [268 0e6 (b.eZ x (235 (b.tb x) 18e5))]=46 (b.eZ x (235 (b.tb x) 18e5)) [] [(18e5).U<=16777216,mA P 35e6 (118 (b.eZ x (235 (b.tb x) 18e5))) 0e6 [.Z (x.aJ+2),0e2,6 18e5,0e8,0e3,3e9] [(98,6e3),(131,.X [28e7,0 x,17e1]),(132,10e6),(6,28e7),(113,8 [13e5,13e6,13e7]),(9,0e3),(139,0e8),(42,0e2),(88,.Z (x.aJ+2)),(137,6 18e5)]]:=by replace h:=xK h;revert x app h;show 13e8;kernel_rfl
def WN(P:PP)(b:MB)(T:0e1)(e t:K)(h:IN e t)(n s a:K)(dt:0e0):263 P 23e3 [8e7,11e5,1e1] [0e3,0e8,0e2] [6e7,268 3e9 23e3]=150 3e9 23e3 [] T [(!(dt).jL)=true,dt.U<=16777216,mA P (118 23e3) (118 23e3) 3e9 [.Z (t.aJ+2),0e2,6 dt,0e8,0e3,3e9] [(98,6e3),(131,.X [8e7,11e5,1e1]),(132,10e6),(6,8e7),(113,8 [13e5,13e6,13e7]),(9,0e3),(139,0e8),(42,0e2),(88,.Z (t.aJ+2)),(137,6 dt)]]:=by replace h:=pK h;revert e t h;show 13e8;kernel_rfl
def al4(P:PP)(b:MB)(T:0e1)(e t:K)(h:IN e t)(n s a:K)(dt:0e0):263 P 23e3 [8e7,11e5,1e1] [0e3,0e8,0e2] [6e7,268 0e6 ((23e3).eZ t (319 dt))]=46 ((23e3).eZ t (319 dt)) [] [(!(dt).jL)=true,dt.U<=16777216,mA P (118 23e3) (118 ((23e3).eZ t (319 dt))) 0e6 [.Z (t.aJ+2),0e2,6 dt,0e8,0e3,3e9] [(98,6e3),(131,.X [8e7,11e5,1e1]),(132,10e6),(6,8e7),(113,8 [13e5,13e6,13e7]),(9,0e3),(139,0e8),(42,0e2),(88,.Z (t.aJ+2)),(137,6 dt)]]:=by replace h:=pK h;revert e t h;show 13e8;kernel_rfl
def WO(P:PP)(b:MB)(T:0e1)(e t:K)(h:IN e t)(n s a:K):263 P 23e8 [8e7,11e5,1e1] [0e3,0e8,0e2] [268 3e9 23e8]=150 3e9 23e8 [] T [mA P (118 23e8) (118 23e8) 3e9 [.Z (t.aJ+2),0e2,11e0,0e8,0e3,3e9] [(98,6e3),(131,.X [8e7,11e5,1e1]),(132,10e6),(6,8e7),(113,8 [13e5,13e6,13e7]),(9,0e3),(139,0e8),(42,0e2),(88,.Z (t.aJ+2)),(137,11e0)]]:=by replace h:=pK h;revert e t h;show 13e8;kernel_rfl
def al5(P:PP)(b:MB)(T:0e1)(e t:K)(h:IN e t)(n s a:K):263 P 23e8 [8e7,11e5,1e1] [0e3,0e8,0e2] [268 0e6 ((23e8).eZ t 49e9)]=46 ((23e8).eZ t 49e9) [] [mA P (118 23e8) (118 ((23e8).eZ t 49e9)) 0e6 [.Z (t.aJ+2),0e2,11e0,0e8,0e3,3e9] [(98,6e3),(131,.X [8e7,11e5,1e1]),(132,10e6),(6,8e7),(113,8 [13e5,13e6,13e7]),(9,0e3),(139,0e8),(42,0e2),(88,.Z (t.aJ+2)),(137,11e0)]]:=by replace h:=pK h;revert e t h;show 13e8;kernel_rfl
def al6(P:PP)(b:MB)(T:0e1)(i:K)(s:16e0):177 [48e9,6e5] []=46 (b.fB i 0e6) [] []:=by replace s:=mz s;revert i s;show 3e1;kernel_rfl
def al7(P:PP)(b:MB)(T:0e1)(fa s:K):c7 (df P b 3 (.X [4e0,3e8]) [0e8,13e3] T [])=46 {b with gv:=(b.gv+4)} [362 (s+b.e9)] [361 (s+b.e9)=true,1<=16777216]:=av
def al8(P:PP)(b:MB)(T:0e1)(fa s:K):c7 (df P b 1 (.X [4e0,3e8]) [0e8,13e3] T [])=c6 0e6 (ad b (.X [25e3,14e5]) [0e8,13e3]) T []:=av
def al9(P:PP)(b:MB)(T:0e1)(c q a t:K)(s:vm c)(h:19e3)(aD:0e0):55 [1e5,10e7,1e1] (0e2::aD) [6e7]=150 (.ag xh) b aD T [bK (5e2<=a)=true]:=by replace h:=pJ h;revert t h;show 3e1;replace s:=A8 s;revert c s;show 3e1;kernel_rfl
def ama(P:PP)(b:MB)(T:0e1)(c q a t:K)(s:vm c)(h:19e3)(aD:0e0):55 [1e5,10e7,1e1] (0e2::aD) [1e9,.v 0e6]=150 (.ag xi) b aD T [bK (5e2<=a)=false,16e4=G 0e6]:=by replace h:=pJ h;revert t h;show 3e1;replace s:=A8 s;revert c s;show 3e1;kernel_rfl
def amb(P:PP)(b:MB)(T:0e1)(c q a t app:K)(x:vm c)(s:Q3 q)(h:19e3)(e:Y6 app)(r:31e4≠q)(aD:0e0):55 [1e5,10e7,1e1] (0e2::aD) [1e9,37e3,37e3]=150 (.ag xj) b aD T [bK (5e2<=a)=false,16e4=34e1,16e4=34e1]:=by replace h:=pJ h;revert t h;show 3e1;replace x:=A8 x;revert c x;show 3e1;replace s:=QN s e r;clear r e;revert q app s;show 13e8;kernel_rfl
def WP(P:PP)(b:MB)(T:0e1)(c a t app:K)(h:vm c)(x:19e3)(s:app=0\/app=2)(v:V):55 [1e5,49e5,1e1] [0e2,v] [1e9,37e3,37e3,37e3]=46 {b with nl:=(b.nl++[.X [49e5,8 [v]]])} [] [bK (5e2<=a)=false,16e4=34e1,16e4=34e1,16e4=34e1,b.nl.U+1<=16777216]:=by replace x:=pJ x;revert t x;show 3e1;replace h:=A8 h;revert c h;show 3e1;replace s:=pJ s;revert app s;show 3e1;kernel_rfl
def amc(P:PP)(b:MB)(T:0e1)(a fa s t:K)(x:19e3)(h:b.apr=3):55 [4e1,3e8,1e1] [0e2,0e8,13e3] [1e9,.v 3e4,.v 3e4,.v 3e4]=46 {b with gv:=(b.gv+4)} [362 (s+b.e9)] [bK (5e2<=a)=false,16e4=G 3e4,16e4=G 3e4,16e4=G 3e4,361 (s+b.e9)=true,1<=16777216]:=by rw[h];rcases x with H|rfl<;>kernel_rfl
def amd(P:PP)(b:MB)(T:0e1)(a fa s t:K)(x:19e3)(h:b.apr=1):55 [4e1,3e8,1e1] [0e2,0e8,13e3] [1e9,.v 3e4,.v 3e4,.v 3e4]=c6 0e6 (ad b (.X [25e3,14e5]) [0e8,13e3]) T [bK (5e2<=a)=false,16e4=G 3e4,16e4=G 3e4,16e4=G 3e4]:=by rw[h];rcases x with H|rfl<;>kernel_rfl
def ame(P:PP)(b:MB)(T:0e1)(f:K)(s:f=1\/f=2\/f=3\/f=4)(v:V):177 [4e0,0 f] [v]=46 {b with nl:=(b.nl++[.X [0 f,8 [v]]])} [] [b.nl.U+1<=16777216]:=by replace s:=QK s;revert f s;show 3e1;kernel_rfl
def NW(n:K)(x:I->be)(s:2e1):2e1:= 1e9::((36e5).aj (λi=>cq.v (2 ((x i).aJ:K)))++s)
def wd(n:K)(x:I->be):K:=((36e5).aj λi=>((x i).aJ:K)*256^i).lc
def y7(n:K)(b:MB)(p:K)(x:I->be):6e1:=(decide (54e1<p+n)=false)::(36e5).tN λ(i:I)=>[dq 4e2 (p+i)=G (2 ((x i).aJ:K)),a9 .f4 ((x i).aJ:K) (256^i)=true]
def y8(n:K)(b:MB)(p v:K)(m:I):0e0:=(D.dS m).iT (λl (i:I)=>D.cN l (p+i).aJ (38 (v.aL (256^i)) 256)) 4e2
def amf(P:PP)(b:MB)(T:0e1)(c n a o:K)(s:LU c n\/∃q,LS c n q):55 [1e5,0e7,12e6] [0e2] [6e7]=150 2e7 b [] T [bK (54e1<a+o+n)=true]:=by replace s:=QM s;revert c n s;show 13e8;kernel_rfl
def amg(P:PP)(b:MB)(T:0e1)(c n a o:K)(x:I->be)(s:LU c n):55 [1e5,0e7,12e6] [0e2] (NW n x [])=46 b [2 (wd n x)] (y7 n b (a+o) x++(286 1)):=by replace s:=Ku s;revert c n s;show 13e8;kernel_rfl
def LW(c n q w h m:K):Prop:=c=44/\n=1/\q=32/\w=256/\h=128/\m=4294967296\/c=48/\n=1/\q=64/\w=256/\h=128/\m=18446744073709551616\/c=46/\n=2/\q=32/\w=65536/\h=32768/\m=4294967296\/c=50/\n=2/\q=64/\w=65536/\h=32768/\m=18446744073709551616\/c=52/\n=4/\q=64/\w=4294967296/\h=2147483648/\m=18446744073709551616
def LWl:D 56e6:=[(44,1,32,256,128,4294967296),(48,1,64,256,128,18446744073709551616),(46,2,32,65536,32768,4294967296),(50,2,64,65536,32768,18446744073709551616),(52,4,64,4294967296,2147483648,18446744073709551616)]
def WQ(s:LW c n q w h m):(c,n,q,w,h,m)∈LWl:=by
 rcases s with⟨H,H,H,H,H,H⟩|⟨H,H,H,H,H,H⟩|⟨H,H,H,H,H,H⟩|⟨H,H,H,H,H,H⟩|⟨H,H,H,H,H,H⟩<;>decide
def WR{β:Type}(apu:K->K->K->K->K->K->β)(p:56e6):β:=apu p.1 p.2.1 p.2.2.1 p.2.2.2.1 p.2.2.2.2.1 p.2.2.2.2.2
def WS{β:Type}{apu apx:K->K->K->K->K->K->β}(l:D 56e6)(h:l.aj (WR apu)=l.aj (WR apx)):∀a b c d e f,(a,b,c,d,e,f)∈l->apu a b c d e f=apx a b c d e f:=λs s s s s s=>D.gG.mp h _
def amh(P:PP)(b:MB)(T:0e1)(c n q w h m a o:K)(x:I->be)(s:LW c n q w h m):55 [1e5,0e7,12e6] [0e2] (NW n x [6e7])=46 b [2 (wd n x-w+m)] (y7 n b (a+o) x++[bK (h<=wd n x)=true,1<=16777216]):=by replace s:=WQ s;revert c n q w h m s;show WS _ ?_;kernel_rfl
def ami(P:PP)(b:MB)(T:0e1)(c n q w h m a o:K)(x:I->be)(s:LW c n q w h m):55 [1e5,0e7,12e6] [0e2] (NW n x [1e9])=46 b [2 (wd n x)] (y7 n b (a+o) x++[bK (h<=wd n x)=false,1<=16777216]):=by replace s:=WQ s;revert c n q w h m s;show WS _ ?_;kernel_rfl
def amj(P:PP)(b:MB)(T:0e1)(c n a v o:K)(s:ST c n):55 [1e5,0e7,12e6] [2 v,0e2] [6e7]=150 2e7 b [] T [bK (54e1<a+o+n)=true]:=by replace s:=Bb s;revert c n s;show 13e8;kernel_rfl
def amk(P:PP)(b:MB)(T:0e1)(c n a v o:K)(s:ST c n):55 [1e5,0e7,12e6] [2 v,0e2] [1e9]=201 b (y8 n b (a+o) v n.aJ) [] T ((decide (54e1<a+o+n)=false)::(36e5).tN λ(i:I)=>[15 v (256^i)=true,9 (v.aL (256^i)) 256=true,bK (0<=a+o+i/\a+o+i<((y8 n b (a+o) v i).U:K))=true]):=by replace s:=Bb s;revert c n s;show 13e8;kernel_rfl
universe e
section
open PySem PySem.W PyProof.Rows PySem.Calls PySem.Spec PySem.SeqAt
open Builtin hiding id
set_option backward.match.sparseCases false
def R.aT.fu{α:Type}(a:α)(F:MS)(ob:D Ob)(e:α)(b:MS)(s:D Ob):(R.aT a F ob=R.aT e b s)=(a=e/\F=b/\ob=s):=qV (425 ⟨x,app,z⟩ h.1)
def MS.mk.fu(o:1e0)(l:0e1)(r:2e1)(o':1e0)(e:0e1)(s:2e1):(MS.mk o l r=MS.mk o' e s)=(o=o'/\l=e/\r=s):=qV (425 ⟨x,app,z⟩ h.1)
def aml(h3:15e0){cO:0e0}(h:l5 (fP sh b' cO)){k:I}{bx:V}{au:0e0}{fa s:K}{o:2e1}{ca:6e1}{apu:K->fj}(dj:cG aw sh 1e2 k (k+1) bx au 19e4 o=ea (pI sh b' (k+1) cO fa s true) 19e4 ca)(e:13e1)(hr:m4 b k bx)(hm:iU b' k false)
  (IH:MC (.b hb jq) {fP sh b' cO with gv:=b'.gv+4} (k+1) [2 (325 s b'.e9)] apu):MC sh b k au (210 (dn+1+4)):=by
 have hd:=wa dj e;clear dj;rcases h3 with H|rfl|rfl
 ·exact l6 (apu:=λdn=>apu (dn+4)) (λdn=>Kw aw .a 2e6 b b' k dn bx au cO fa s) (j1 hr hd) (λdn=>ni (F:=[]) (ex:=[63,64,65,67,68,69]) aq h 45e3 (λB x=>mC 0 B (k+1) [] fa s) (λB x=>pI .a B (k+1) B.g fa s false) H av) (NQ h hm (pa IH))
 ·exact l6 (apu:=λdn=>apu (dn+4)) (λdn=>Kw aw (.b fC []) 15e6 b b' k dn bx au cO fa s) (j1 hr hd) (λdn=>ni (F:=[]) (ex:=[64,65,66,68,69,70]) aq h 45e3 (λB x=>mC 0 B (k+1) [] fa s) (λB x=>pI (.b fC []) B (k+1) cO fa s false) H av) (NQ h hm (pa IH))
 ·exact l6 (apu:=λdn=>apu (dn+4)) (λdn=>Kw aw (.b hb jq) (78 H) b b' k dn bx au cO fa s) (j1 hr hd) (λdn=>ni (F:=[]) (ex:=[66,63,64,67,68,69]) aq h 45e3 (λB x=>mC 0 B (k+1) [] fa s) (λB x=>pI (.b hb jq) B (k+1) cO fa s false) H av) (NQ h hm (pa IH))
structure oa(b:MB):Prop where
 m:∀i (f:I->I),(∀j,j<51->f j=j)->f9 f (b.m i)=b.m i
 B:∀f,bQ f b.B=b.B
 T0:∀f,bQ f b.T0=b.T0
 T1:∀f,bQ f b.T1=b.T1
 T2:∀f,bQ f b.T2=b.T2
 nl:∀f,bQ f b.nl=b.nl
 c2:∀f,cK f b.c2=b.c2
 e0:∀f,cK f b.e0=b.e0
 e1:∀f,cK f b.e1=b.e1
 d0:∀f,cK f b.d0=b.d0
 d1:∀f,cK f b.d1=b.d1
def MB.WT(f:I->I)(b:MB):MB:={b with m:=λi=>f9 f 30e2,T0:=bQ f b.T0,T1:=bQ f b.T1,T2:=bQ f b.T2,nl:=bQ f b.nl,c2:=71 b.c2,e0:=71 b.e0,e1:=71 b.e1,d0:=71 b.d0,d1:=71 b.d1}
def amm(b:MB)(oc au:0e0)(en:V)(apu f:I->I)(e:(λj=>cC (I.jN j 51) j (apu j))=f):(149 b au).aj (f9 f)=dc (b.WT f) (bQ f oc) 41e1 (bQ f au):=by
 subst e;kernel_rfl
def WU(s:oa b)(f:I->I)(h:∀j,j<51->f j=j)(x:bQ f oc=oc)(a:41e1=en)(hs:bQ f au=au):(149 b au).aj (f9 f)=149 b au:=by
 have e:=amm b oc au en f f (NN 51 h);unfold MB.WT at e;rw[x,a,hs,s.T0,s.T1,s.T2,s.nl,s.c2,s.e0,s.e1,s.d0,s.d1,y5 λi=>s.m i f h]at e;exact e
def uw(b:MB)(oc:0e0)(en:V)(au:0e0):(149 b au).U=51:=H
def amn{ca:6e1}(h:c7 r=c6 v O T ca):∃fD,r= 92 v fD ca/\fD.fG 51=O:=by
 cases r with
 |aT a F ob=>
  obtain⟨o,l,c⟩:=F;(show hT (Eq.mp (R.aT.fu ..) h) λx u s=>?_;subst x;subst s);(show hT (Eq.mp (MS.mk.fu ..) u) λh1 e s=>?_;subst e;subst s);exact⟨o,H,h1⟩
 |a8 i F ob=>cases h
 |no w=>cases h
def amo(r:oa b)(m:21 oc oc)(n:∀f,41e1=en)(hs:21 au au)(h:fD.fG 51=149 b au)(a:∀k v,19 mH=2e5->∃v2,19e1=G v2/\∀f:I->I,(∀j,j<51->f j=j)->dG v2=dG 15e3):gb 51 fD (149 b au) T mH (gm 43e1 fD.U):=by
 have x:∀j,j<51->gm 43e1 fD.U j=j:=λj p=>by
  unfold gm;rw[D.ut p];rfl
 show gb.sE ?_ D.WV (λk v e=>?_) (by simp)
 ·rw[C3,WU r _ x (m _) (n _) (hs _),<-h];show D.V8 λi=>?_;rw[D.nY,D.nY];by_cases s:i<51
  ·rw[D.ut s,D.NC s];refine G ((fD[i]?).aj eI)=(fD[i]?).aj (λo=>G (eI o));have:i<fD.U:=by
    have:=bC D.U h;rw[D.qQ,uw]at bb;lia
   rw[D.ic bb];rfl
  ·rw[D.q4 (by simp;exact I.C9 s),D.q4 (by rw[h,uw];exact I.C9 s)];rfl
 ·show aN (a k v e) λv2 e1 e2=>?_;exact⟨v2,e1,e2 _ x⟩
def amp{b:MB}(s:21 b.B b.B){k:I}{bx:V}(h:b.B[k]? =G bx)(f:I->I):71 bx=bx:=by
 have:=s f;rw[lE]at bb;have e:=bC (·[k]?) bb;simp only[D.nY,h,ar.tc,ar.G.fu]at e;exact e
def amq{b:MB}(s:21 b.B b.B){k:I}{bx:V}(h:b.B[k]? =G bx){ex:0e1}:∀k v,19 (1e7++[(131,bx)])=2e5->∃v2,19 (1e7++[(131,bx)]++ex)=G v2/\∀f:I->I,(∀j,j<51->f j=j)->dG v2=dG 15e3:=by
 intro k v e;show⟨v,wb e,λf x=>?_⟩;have hm:=iW e;clear e;simp only[b2,D.NS,D.uR,D.eR,kC.mk.fu,D.mn,mo]at hm;rcases hm with⟨_,H⟩|⟨_,H⟩|⟨_,H⟩|⟨_,H⟩|⟨_,H⟩
 ·exact bC (λv=>dG (.Z v)) (x 5 aq).bi
 ·exact bC (λv=>dG (.ad v _)) (s f).bi
 ·rfl
 ·exact bC (λv=>dG (.Z v)) (x 50 aq).bi
 ·rw[amp s h f]
def amr{F:MS}:kT F (5 1448):=17e5
def y9(x:oa b')(a:21 b.B b.B){k:I}{bx:V}(r:b.B[k]? =G bx){oc au b7:0e0}{v en:V}(i:21 oc oc)(u:∀f,41e1=en)(hs:21 b7 b7)(s:∀f,15e3=v){o:2e1}{ca:6e1}
  (dj:c7 (df aw 1e2 b.apr bx au (1e7++[(131,bx)]) o)=c6 v (149 b' b7) (1e7++[(131,bx)]) ca) (q1:13e1):xM aw b bx au v (149 b' b7):=by
 show aN (amn dj) λfD e q=>?_;have S:=hR 39 90 (22 1448 [6e3,bx,10e6,49e0]) ⟨373 1e2,1e7++[(131,bx)],o⟩;have l:apy aw 90 39 (22 1448 [6e3,bx,10e6,49e0]) ⟨373 1e2,1e7++[(131,bx)],o⟩= .aT (.v v) ⟨fD,1e7++[(131,bx)],[]⟩ ca:=e;rw[l]at S;have n:=amo x i u hs q (T:=1e7++[(131,bx)]) (mH:=1e7++[(131,bx)]) λm h w=>by
  have:=amq a r (ex:=[]) m h w;rwa[D.dZ]at bb
 have j:v=cK (gm 43e1 fD.U) v:=(s _).bi;rw[j]at S;exact Wc (f:=gm 43e1 fD.U) S q1 n amr
def LC(b:MB)(k:I)(au:0e0)(bI:fj):Prop:=aw 39 (.gj (.n 131) (356 b.B) k qG) 30e5 1e7 bI
def NX{b:MB}{k:I}{bx:V}(h:b.B[k]? =G bx):∀F,It.at F (356 b.B) k=G (G bx):=λF=>by
 refine G b.B[k]? =_;rw[h]
def NY(b:MB)(O:1e0)(bx:V):∀o,pF ⟨O,1e7,o⟩ (.n 131) bx= 124 () ⟨O,1e7++[(131,bx)],o⟩:=λo=>rfl
def WW(x:oa b)(r:21 oc oc)(p:∀f,41e1=en)(hs:21 au au)(a:21 b0.B b0.B):gb 51 (149 b au) (149 b au) (b2 b0++ex) (b2 b0) 39e7:=
 ⟨⟨λi o e=>⟨o,e,by rw[uu]⟩,λi h=>h,λi j s s h=>h,λk v e=>⟨v,wb e,by rw[n6]⟩⟩,λi s=>rfl,I.hZ (uw ..).bi⟩
def og(m:4e9)(f:I->I):bQ f (m.aj bB)=m.aj bB:=by
 rw[lE,D.rB];rfl
def Da{b b':MB}(s:oa b')(x:21 b.B b.B)(e1:b'.B=b.B)(e2:b'.apr=b.apr){k:I}{c:K}{aD:0e0}(v:c∈jQ)(e:b.B[k]? =G (.X (1e5::aD))){oc au b7:0e0}(n:oc=36e1)(hs:21 b7 b7){o:2e1}{ca:6e1}{bI:fj}
  (dj:288 1e2 (1e5::aD) au (1e7++[(131,.X (1e5::aD))]) o=201 b' oc b7 (1e7++[(131,.X (1e5::aD))]) ca) (q1:13e1) (IH:LC b' (k+1) b7 bI):LC b k au bI:=by
 subst n;have hd:=y9 s x e (og b'.aO) 52e3 hs 52e3 dj q1;have r:b2 b'=1e7:=by unfold b2;rw[e1,e2]
 have m:=v9 (a3:= 24e4) (f:=λi=>i) (fL:=ad b' 0e6 b7) (gc:=1e7) (QQ aw b b' 36e1 au b7 aD c v) (λp h=>by rw[D.cZ]at h;exact h▸hd) (WW s (og b'.aO) 52e3 hs (b0:=b) x);show yY (NX e) (NY b _ _) m ?_;unfold LC at IH;rw[e1,r]at IH;exact IH
def Db{b b':MB}(h:oa b')(x:21 b.B b.B){k:I}{bx:V}(a:b.B[k]? =G bx){oc au b7:0e0}{en w:V}(m:21 oc oc)(n:∀f,41e1=en)(hs:21 b7 b7){o:2e1}{ca:6e1}{ex:0e1}
  (dj:125 aw 39 qG ⟨30e5,1e7++[(131,bx)],o⟩= .aT (105 w) ⟨149 b' b7,1e7++ex,[]⟩ ca) (q1:13e1):LC b k au (.Y (105 w) (149 b' b7) 1e7):=by
 have s:125 aw 39 qG ⟨30e5,1e7++[(131,bx)],o⟩= .aT (v8 39e7 (A.f (.bk w))) ⟨149 b' b7,1e7++ex,[]⟩ ca:=by
  have e:v8 39e7 (A.f (.bk w))=A.f (.bk w):=by refine A.f (.bk (cK 39e7 w))=_;rw[n6]
  rw[e];exact dj
 have r:=v9 (fL:=149 b' b7) (gc:=1e7) s q1 (WW h m n hs (b0:=b) x);exact akd (NX a) (NY b _ _) r
set_option genCtorIdx true in
inductive apv where
 |cA|j2|rf|rx|x|s8
def KV:apv->V->Prop
 | .cA,v=>∃n:K,v= 0e3/\0<=n/\n<4294967296
 | .j2,v=>∃n:K,v= 0e3/\0<=n/\n<18446744073709551616
 | .rf,v=>v= 0e6\/∃n:K,v= 0 n/\0<=n/\n<6
 | .rx,v=>v= 0e6\/∃n:K,v= 0 n
 | .x,v=>v= 0e6\/∃(n:K) (t:al),v= .y n t
 | .s8,v=>∃n:K,v= 0e3/\0<=n/\n<256
@[elab_as_elim] def ij {C:V->Prop} (h:KV .cA v) (g:∀n:K,0<=n/\n<4294967296->C (.y n true)):C v:=by
 (show aN h λn x s=>?_;try clear h;subst x);exact g n s
def KV.x(h:KV q v):KV .x v:=by
 cases q with
 |cA=>(show aN h λn s e=>?_;try clear h;subst s);exact 353 n H
 |j2=>(show aN h λn s e=>?_;try clear h;subst s);exact 353 n H
 |rf=>rcases h with H|⟨n,H,_⟩;exact .a4 H;exact .aE ⟨n,_,H⟩
 |rx=>rcases h with H|⟨n,H⟩;exact .a4 H;exact .aE ⟨n,_,H⟩
 |x=>exact h
 |s8=>(show aN h λn s e=>?_;try clear h;subst s);exact 353 n H
def KV.eQ(h:KV q v)(f:I->I):15e3=v:=by
 rcases h.x with H|⟨n,t,H⟩<;>rfl
def eJ(q:apv)(l:0e0):Prop:=∀v∈l,KV q v
def eJ.eQ(h:eJ q l)(f:I->I):bQ f l=l:=by
 rw[lE];exact(D.yz λv s=>(h v s).eQ f).aV (D.map_id l)
def ux(p:K×V):V:= .X [0 p.1,6 [p.2]]
def uy(p:K×V):V:= .X [0 p.1,8 [p.2]]
structure c8(b:MB)(k:I)(ns:D (K×V)):Prop where
 aO:b.aO.U=16\/b.aO.U=32
 T0:eJ .rf b.T0/\b.T0.U<=6
 T1:eJ .rx b.T1/\b.T1.U<=4
 T2:eJ .rf b.T2/\b.T2.U<=7
 c0:0<=b.c0/\b.c0<4294967296
 c1:0<=b.c1/\b.c1<18446744073709551616
 c2:KV .rf b.c2
 e0:b.e0= .aa .L\/∃l,b.e0= .ad l true/\eJ .rf l/\l.U=4
 e1:b.e1= .aa .L\/∃l,b.e1= .ad l true/\eJ .rx l/\l.U=2
 d0:b.d0= .aa .L\/∃l,b.d0= .ch l/\l.U=8
 d1:b.d1= .aa .L\/∃l,b.d1= .ch l/\l.U=2
 no:b.no=ns.aj ux
 nl:b.nl=ns.aj uy
 ns:(∀p∈ns,KV .x p.2)/\ns.U<=k
 e9:0<=b.e9/\b.e9<1000
 apr:b.apr=1\/b.apr=3
 g:eJ .x b.g
 B:(∀f,bQ f b.B=b.B)/\b.B.U<=1000
def WX{ns:33e1}(h:∀p∈ns,KV .x p.2)(f:I->I):bQ f (ns.aj ux)=ns.aj ux/\bQ f (ns.aj uy)=ns.aj uy:=by
 constructor
 ·rw[lE,D.rB];show D.yz λp s=>?_;refine 71 (ux p)=ux p;exact bC (λv=>ux (p.1,v)) ((h p s).eQ f)
 ·rw[lE,D.rB];show D.yz λp s=>?_;refine 71 (uy p)=uy p;exact bC (λv=>uy (p.1,v)) ((h p s).eQ f)
def Dc(h:v= 0e6\/∃l,v= 6 l/\eJ q l/\l.U=n)(f:I->I):15e3=v:=by
 rcases h with H|⟨l,H,s,_⟩
 ·rfl
 ·exact bC (V.ad · _) (s.eQ f)
def Dd(h:v= 0e6\/∃l,v= .ch l/\l.U=n)(f:I->I):15e3=v:=by
 rcases h with H|⟨l,H,_⟩<;>rfl
def kr(apC:I)(m:4e8):Prop:=∀i (f:I->I),(∀j,j<apC->f j=j)->f9 f (m i)=m i
section
variable{b:MB}{k:I}{ns:D (K×V)}
def c8.we(h:20e7)(hm:kr 62 b.m):l5 b:=⟨hm,h.B.1,h.T0.1.eQ,h.T1.1.eQ,h.T2.1.eQ,λf=>by rw[h.no];exact(WX h.ns.1 f).1,h.g.eQ,h.c2.eQ,Dc h.e0,Dc h.e1,Dd h.d0,Dd h.d1⟩
def c8.oh(h:20e7){mL:4e8}(hm:kr 51 mL):oa {b with m:=mL}:=⟨hm,h.B.1,h.T0.1.eQ,h.T1.1.eQ,h.T2.1.eQ,λf=>by refine bQ f b.nl=b.nl;rw[h.nl];exact(WX h.ns.1 f).2,h.c2.eQ,Dc h.e0,Dc h.e1,Dd h.d0,Dd h.d1⟩
universe e
abbrev lw(mL:4e8)(b:MB):MB:={b with m:=mL}
inductive De (b:MB) (apu:K->fj):Prop
 |mk (S:I) (kn:D (V×V)) (k:K) (aqN WY:D V) (aD:D aps) (c:K) (e:apu=(λdn=> .Y (.f .bA) (dE S kn [] k aqN WY false b aD) (dK (dn+c))))
  (q:(S=55/\WY=[]/\aD=[])\/(S=62/\∃apw E,(apw= .au []\/apw= .az [] true)/\(E=[]\/E=jq)/\aD=apw::E))
inductive za (b:MB) (C:aI) (z:am) (apu:K->fj):Prop
 |mk (sh:Sh) (k:K) (au:D V) (h:hh sh) (e:apu=λzz=> .a8 (b1 sh b k []).U (ek sh b k au (.a8 C [(58,.ag z)])) [])
def Df(b:MB)(s:V)(apu:K->fj):Prop:=
 (s= .X [28e9,5e7]/\De b apu)\/(∃z,s= .X [.ag rJ,7e8]/\ck.rL z=true/\za b 51 z apu)\/(s= .X [25e3,14e5]/\za b 63 h7 apu)
structure aqO(b0 bF:MB)(en:V)(cB:D V):Prop where
 e1:bF.m=b0.m
 e2:bF.B=b0.B
 e3:bF.e9=b0.e9
 e4:bF.apr=b0.apr
 e5:∀f,cK f en=en
 apH:∀f,bQ f cB=cB
inductive apF (mL:I->aps) (b0:MB) (sh:Sh) (b:MB) (k:I) (au:D V):Prop
 |mk (apu:K->fj) (gn en:V) (cB:D V) (bF:MB) (aqP:I) (nsF:D (K×V)) (h1:MC sh b k au apu) (h2:∀mL,kr 51 mL->LC (lw mL b) k au (.Y (.f (.bk gn)) (dc (lw mL bF) (bF.aO.aj bB) en cB) (b2 b))) (h3:Df bF gn apu) (h4:c8 bF aqP nsF) (t:aqO b0 bF en cB)
def bu(b b':MB):Prop:=b'.m=b.m/\b'.B=b.B/\b'.e9=b.e9/\b'.apr=b.apr
def ams(h:34e8):b2 b'=1e7:=by
 unfold b2;rw[h.2.1,h.2.2.2]
def De.wf{apu:K->fj}(h:De b apu)(c:K):De b (210 (dn+c)):=by
 obtain(⟨S,e,k,x,s,aD,c2,H,q⟩):=h;exact⟨S,e,k,x,s,aD,c+c2,y5 λdn=>by refine fj.Y _ _ (dK (dn+c+c2))=_;rw[K.Wo],q⟩
def za.wf{apu:K->fj}(h:za b C z apu)(c:K):za b C z (210 (dn+c)):=by
 obtain(⟨sh,k,au,q,H⟩):=h;exact⟨sh,k,au,q,H⟩
def Df.wf{apu:K->fj}(h:Df b gn apu)(c:K):Df b gn (210 (dn+c)):=
 h.f5 (.f5 id λh=>h.wf c) (.f5 (.f5 λs=> .f5 id (.f5 id λh=>h.wf c)) (.f5 id λh=>h.wf c))
def zb{mL:4e8}(hs:34e8)(hm:∀apu,MC sh' b' (k+1) b7 apu->MC sh b k au (210 (dn+c)))(s:∀mL,kr 51 mL->∀bI,LC 23e4 (k+1) b7 bI->LC 14e0 k au bI)(m:apF mL b0 sh' b' (k+1) b7):32e1:=by
 obtain(⟨apu,a,en,cB,e,h,p,h1,h2,h3,x,r⟩):=m;exact⟨_,a,en,cB,e,h,p,hm apu h1,λmL hL=>s mL hL _ (ams hs▸h2 mL hL),h3.wf c,x,r⟩
structure Cx(mL:I->aps)(sh:Sh)(b:MB)(k:I)(ns:D (K×V))(bx:V):Prop where
 apx:c8 b k ns
 hm:kr 62 b.m
 hL:kr 51 mL
 h3:hh sh
 hr:b.B[k]? =G bx
section
variable{mL:I->aps}{sh:Sh}{b b' b0:MB}{k:I}{ns lf:D (K×V)}{au b7:D V}{c:K}{r:D V}{o:D cq}{o2:(I->aps)->D cq}{ca:D Prop}{nk:(I->aps)->D Prop}{oc:(I->aps)->D V}
def Cx.at(C:Cx mL sh b k ns bx):m4 b k bx:=C.hr
def zc(hs:34e8)(s:7e4):iU b' k false:=by
 refine bK _=false;rw[hs.2.1];simp only[decide_eq_false_iff_not];lia
def amt(hs:34e8)(s:k+1=b.B.U):iU b' k true:=by
 refine bK _=true;rw[hs.2.1];simp only[mW];exact K.hZ (bC I.cast (id (Eq.bi s)))
def c8.up(apx:20e7):81 1e2 (k+1):=⟨apx.aO,apx.T0,apx.T1,apx.T2,apx.c0,apx.c1,apx.c2,apx.e0,apx.e1,apx.d0,apx.d1,apx.no,apx.nl,⟨apx.ns.1,I.aeK apx.ns.2⟩,apx.e9,apx.apr,apx.g,apx.B⟩
def fW(C:18 (1e5::r))(s:7e4)(a:c∈jQ)(hs:34e8)(e:c8 b' (k+1) lf)(x:21 b7 b7)
  (dj:302 (k+1) (1e5::r) au (1e5::r) o=ea (b1 sh b' (k+1) b7) (32 (1e5::r)) ca) (ho:13e1)
  (l7:∀mL,288 1e6 (1e5::r) au (1e7++[(131,.X (1e5::r))]) (o2 mL)=201 23e4 33e0 b7 (1e7++[(131,.X (1e5::r))]) (nk mL)) (l8:46e8) (q6:∀mL,33e0=36e1)
  (IH:apF mL b0 sh b' (k+1) b7):32e1:=
 zb hs (λapu h=>Wx dj ho C.at (zc hs s) h) (λmL hL bI h=>Da (b:=14e0) (b':=23e4) (e.oh hL) C.apx.B.1 hs.2.1 hs.2.2.2 a C.hr (q6 mL) x (l7 mL) (l8 mL) h) IH
def amu(C:18 (1e5::r))(e:7e4)(a:c∈jQ)(hs:34e8)(x:c8 b' (k+1) lf)(s:21 b7 b7)
  (dj:302 (k+1) (1e5::r) au (1e5::r) o=ea (ek sh b' (k+1) b7 g) (32 (1e5::r)) ca) (ho:13e1)
  (l7:∀mL,288 1e6 (1e5::r) au (1e7++[(131,.X (1e5::r))]) (o2 mL)=201 23e4 33e0 b7 (1e7++[(131,.X (1e5::r))]) (nk mL)) (l8:46e8) (q6:∀mL,33e0=36e1)
  (IH:apF mL b0 sh b' (k+1) b7):32e1:=
 zb hs (λapu h=>aln C.h3 (x.we (hs.1▸C.hm)) s dj ho C.at (zc hs e) h) (λmL hL bI h=>Da (b:=14e0) (b':=23e4) (x.oh hL) C.apx.B.1 hs.2.1 hs.2.2.2 a C.hr (q6 mL) s (l7 mL) (l8 mL) h) IH
def amv(h:LC (182 (fP sh b' cO)) k au bI):LC 23e4 k au bI:=by
 cases sh<;>exact h
def WZ(C:18 (1e5::r))(n:7e4)(m:c∈jQ)(hs:34e8)(x:c8 (fP sh b' cO) (k+1) lf)(s:21 b7 b7)
  (dj:302 (k+1) (1e5::r) au (1e5::r) o=ea (vo sh b' (k+1) cO b7 [3e7]) (32 (1e5::r)) ca) (ho:13e1)
  (l7:∀mL,288 1e6 (1e5::r) au (1e7++[(131,.X (1e5::r))]) (o2 mL)=201 23e4 33e0 b7 (1e7++[(131,.X (1e5::r))]) (nk mL)) (l8:46e8) (q6:∀mL,33e0=36e1)
  (IH:apF mL b0 (y6 sh) (fP sh b' cO) (k+1) b7):32e1:=by
 have e:70 (fP sh b' cO):=by cases sh<;>exact hs
 have hm:kr 62 (fP sh b' cO).m:=by rw[e.1];exact C.hm
 have v:∀mL,kr 51 mL->oa 23e4:=λmL hL=>by
  have:=x.oh hL;cases sh with
  |a=>exact⟨bb.m,bb.B,bb.T0,bb.T1,bb.T2,bb.nl,bb.c2,bb.e0,bb.e1,bb.d0,bb.d1⟩
  |b w E=>exact bb
 exact zb e (λapu h=>alp C.h3 (x.we hm) s dj ho C.at (zc hs n) h) (λmL hL bI h=>Da (b:=14e0) (b':=23e4) (v mL hL) C.apx.B.1 hs.2.1 hs.2.2.2 m C.hr (q6 mL) s (l7 mL) (l8 mL) (amv h)) IH
def je(C:18 (1e5::r))(m:c∈19::jQ)(hs:34e8)(s:c8 b' (k+1) lf)(h0:14e1)(x:21 cB cB)
  (dj:fT (302 (k+1) (1e5::r) au (1e5::r) o)=gw (275 (k+1) []).U (138 b' (k+1) b7 51 [(58,7e8)]) ca) (ho:13e1)
  (l7:∀mL,288 1e6 (1e5::r) au (1e7++[(131,.X (1e5::r))]) (o2 mL)=c6 7e8 (85 23e4 33e0 cB) (1e7++[(131,.X (1e5::r))]) (nk mL)) (l8:46e8) (q6:∀mL,33e0=36e1) (hz:ck.rL z=true):32e1:=by
 have cR:∀mL,kr 51 mL->LC 14e0 k au (.Y (306 [.ag rJ,7e8]) (85 23e4 36e1 cB) 1e7):=λmL hL=>by
  have a:=l7 mL;rw[q6 mL]at a;have hd:=y9 (b:=14e0) (b':=23e4) (s.oh hL) C.apx.B.1 C.hr (og b'.aO) 42e0 x 42e0 a (l8 mL);exact Db (b:=14e0) (b':=23e4) (w:= .X [.ag rJ,7e8]) (s.oh hL) C.apx.B.1 C.hr (og b'.aO) (en:= 0e6) 42e0 x (adi aw 14e0 23e4 36e1 au cB r z c m) (39 hd)
 show⟨_,_,0e6,cB,b',k+1,lf,Wy C.h3 dj H ho C.at,cR,.aE (.a4 ⟨z,H,hz,sh,k+1,b7,C.h3,?_⟩),s,?_⟩
 ·have e:(275 (k+1) []).U=(b1 sh b' 49e1 []).U:=by
   clear dj;rcases C.h3 with H|rfl|rfl<;>rfl
  clear C;rw[e];rfl
 ·exact⟨hs.1.aV h0.1.bi,hs.2.1.aV h0.2.1.bi,hs.2.2.1.aV h0.2.2.1.bi,hs.2.2.2.aV h0.2.2.2.bi,λh=>rfl,x⟩
universe e
def ef:D apv->0e0->Prop
 | [],[]=>ku
 |q::ts,v::vs=>KV q v/\ef ts vs
 |_,_=>fR
def ef.eQ:∀{ts:D apv} {vs:0e0},ef ts vs->∀f,bQ f vs=vs
 | [],[],_,f=>rfl
 |q::ts,v::vs,h,f=>(bC (· ::_) (h.1.eQ f)).aV (bC (v:: ·) (ef.eQ h.2 f))
def ef.cU:∀{ts:D apv} {vs:0e0},ef ts vs->vs.U=ts.U
 | [],[],_=>rfl
 |q::ts,v::vs,h=>by rw[D.m6,D.m6,ef.cU h.2]
def Nx(mL:4e8)(b0 b:MB)(k:I)(ts:D apv):Prop:=∀s b' lf b7,hh s->34e8->c8 b' (k+1) lf->ef ts b7->apF mL b0 s b' (k+1) b7
def amw(P:PP)(d:I)(O:1e0)(T:0e1)(n:K):227 20 1 84 [0e3,29e0] []= 92 (2 (Builtin.i7 n 4294967295)) O []:=akh P d O T n
def W0:58 aw (d+1) 84 [0e3,29e0] 47e5:=by
 intro O T;show iY (n:=20) (o1:=[]) (o2:=[]) (ob:=[]) ?_ (λp s=>nomatch s) 17e5;rw[amw,C2]
def l9(n:K)(h:0<=apB):n.ah apB=n % apB:=K.fmod_eq_emod_of_nonneg n h
def bu.b8(b:MB):70 1e2:=⟨H,H,H,H⟩
section
variable{mL:I->aps}{sh:Sh}{b b0:MB}{k:I}{ns:D (K×V)}{ts:D apv}{aD:D V}
def amx(C:18 [5e8,0e3])(e:7e4)(x:30e6)(r:ts.U<=5)(a:76 (.cA::ts)):41e0:=by
 have h1:=x.cU;have s:=λmL:4e8=>(by
  have s:=WI aw 1e6 (1e7++[(131,.X [5e8,0e3])]) n aD
  rw[l9 n aq]at s
  exact s:_)
 have h:ef (.cA::ts) (2 47e5::aD):=⟨⟨_,H,K.nh _ aq,K.n9 _ aq⟩,x⟩;exact 123 e aq h.eQ (Wt aw sh 1e2 k (k+1) _ n aD) (24 W0 bN) s (232 cI bN) (a sh _ ns _ C.h3 5e3 C.apx.up h)
def amy(p:0<=n/\n<256)(C:18 [5e8,0e3])(e:7e4)(x:30e6)(r:ts.U<=5)(a:76 (.s8::ts)):41e0:=by
 have h1:=x.cU;have s:=λmL:4e8=>(by
  have s:=WI aw 1e6 (1e7++[(131,.X [5e8,0e3])]) n aD
  rw[l9 n aq]at s
  exact s:_)
 have h:ef (.s8::ts) (2 47e5::aD):=⟨⟨_,H,K.nh _ aq,bN⟩,x⟩;exact 123 e aq h.eQ (Wt aw sh 1e2 k (k+1) _ n aD) (24 W0 bN) s (232 cI bN) (a sh _ ns _ C.h3 5e3 C.apx.up h)
def amz(C:18 [21e4,0e3])(e:7e4)(x:30e6)(r:ts.U<=5)(a:76 (.j2::ts)):41e0:=by
 have h1:=x.cU;have s:=λmL:4e8=>(by
  have s:=alz aw 1e6 (1e7++[(131,.X [21e4,0e3])]) n aD
  rw[l9 n aq]at s
  exact s:_)
 have h:ef (.j2::ts) (2 50e4::aD):=⟨⟨_,H,K.nh _ aq,K.n9 _ aq⟩,x⟩;exact 123 e aq h.eQ (akF aw sh 1e2 k (k+1) _ n aD) (24 Wj bN) s (232 cI bN) (a sh _ ns _ C.h3 5e3 C.apx.up h)
def amA(x:q= .rf\/q= .rx)(C:18 [0 208,0e3])(e:7e4)(h:30e6)(r:ts.U<=5)(a:76 (q::ts)):41e0:=by
 have h1:=h.cU;have s:ef (q::ts) (0e6::aD):=⟨by rcases x with H|rfl<;>exact .a4 H,h⟩;exact 123 e aq s.eQ (akG aw sh 1e2 k (k+1) _ n aD) 40e9 (λmL=>alA aw 1e6 _ n aD) 44e5 (a sh _ ns _ C.h3 5e3 C.apx.up s)
def amB(h:0<=n/\n<6):∃v:K,dq [1e3,1e8,0e7,10e8,3e8,3e4] n=G (0 v)/\0<=v/\v<6:=by
 have:n=0\/n=1\/n=2\/n=3\/n=4\/n=5:=bN;rcases bb with H|rfl|rfl|rfl|rfl|rfl
 ·exact⟨1,H,aq,aq⟩
 ·exact⟨2,H,aq,aq⟩
 ·exact⟨0,H,aq,aq⟩
 ·exact⟨4,H,aq,aq⟩
 ·exact⟨5,H,aq,aq⟩
 ·exact⟨3,H,aq,aq⟩
def amC(r:0<=n/\n<6)(C:18 [0 210,0e3])(a:7e4)(h:30e6)(m:ts.U<=5)(p:76 (.rf::ts)):41e0:=by
 have h1:=h.cU;show aN (amB r) λv e x=>?_;have s:ef (.rf::ts) (0 v::aD):=⟨247 v H x,h⟩;exact 123 a aq s.eQ (akH aw sh 1e2 k (k+1) _ n v aD) (24 e bN) (λmL=>alB aw 1e6 _ n v aD) (232 e bN) (p sh _ ns _ C.h3 5e3 C.apx.up s)
def amD(C:18 [29e0,0e7])(x:7e4)(h:30e6)(a:ts.U<=5)(e:76 (.rx::ts)):41e0:=by
 have h1:=h.cU;have s:ef (.rx::ts) (0 9::aD):=⟨.aE ⟨9,H⟩,h⟩;exact 123 x aq s.eQ (akI aw sh 1e2 k (k+1) _ aD) 40e9 (λmL=>alC aw 1e6 _ aD) 44e5 (e sh _ ns _ C.h3 5e3 C.apx.up s)
def amE(a:KV .rx v)(C:18 [43e3])(x:7e4)(h:30e6)(r:ts.U<=5)(e:76 (.x::ts)):48 (v::aD):=by
 have h1:=h.cU;rcases a with H|⟨n,H⟩
 ·have s:ef (.x::ts) (1e3::aD):=⟨19e7,h⟩;exact 123 x aq s.eQ (akJ aw sh 1e2 k (k+1) _ aD) 40e9 (λmL=>alD aw 1e6 _ aD) 44e5 (e sh _ ns _ C.h3 5e3 C.apx.up s)
 ·have s:ef (.x::ts) (0e7::aD):=⟨19e7,h⟩;exact 123 x aq s.eQ (akK aw sh 1e2 k (k+1) _ n aD) 40e9 (λmL=>alE aw 1e6 _ n aD) 44e5 (e sh _ ns _ C.h3 5e3 C.apx.up s)
def amF(C:18 [16e3,0e7])(x:7e4)(h:30e6)(a:ts.U<=5)(e:76 (.x::ts)):41e0:=by
 have h1:=h.cU;have s:ef (.x::ts) (31e3::aD):=⟨19e7,h⟩;exact 123 x aq s.eQ (akL aw sh 1e2 k (k+1) _ aD) 40e9 (λmL=>alF aw 1e6 _ aD) 44e5 (e sh _ ns _ C.h3 5e3 C.apx.up s)
def amG(C:18 [16e3,1e3])(x:7e4)(h:30e6)(a:ts.U<=5)(e:76 (.x::ts)):41e0:=by
 have h1:=h.cU;have s:ef (.x::ts) (31e2::aD):=⟨19e7,h⟩;exact 123 x aq s.eQ (akM aw sh 1e2 k (k+1) _ aD) 40e9 (λmL=>alG aw 1e6 _ aD) 44e5 (e sh _ ns _ C.h3 5e3 C.apx.up s)
def amH(C:18 [16e3,1e8])(a:7e4)(r:30e6)(m:ts.U<=5)(p:76 (.x::ts)):41e0:=by
 have h1:=r.cU;have s:ef (.x::ts) (b.c2::aD):=⟨C.apx.c2.x,r⟩;have x:=λmL:4e8=>alH aw 1e6 (1e7++[(131,.X [16e3,1e8])]) aD;rcases C.apx.c2 with e|⟨n,e,_⟩
 ·have hm:=akN aw sh 1e2 k (k+1) (32 [16e3,1e8]) aD;have h:({aG b with c2:= .aa .L}:MB)=1e2:=by rw[<-e]
  rw[h,<-e]at hm;exact 123 a aq s.eQ hm 40e9 x 44e5 (p sh _ ns _ C.h3 5e3 C.apx.up s)
 ·have hm:=akO aw sh 1e2 k (k+1) (32 [16e3,1e8]) n aD;have h:({aG b with c2:= .y n false}:MB)=1e2:=by rw[<-e]
  rw[h,<-e]at hm;exact 123 a aq s.eQ hm 40e9 x 44e5 (p sh _ ns _ C.h3 5e3 C.apx.up s)
def amI(e:30e3)(C:18 [21e3,0e7])(a:7e4)(x:30e6)(r:76 ts):48 (v::aD):=by
 show ij e λn h=>?_;have hs:70 {aG b with c0:=n}:=5e3;have s:81 {aG b with c0:=n} (k+1):={C.apx.up with c0:=h};exact fW C a aq hs s x.eQ (akP aw sh 1e2 k (k+1) _ n aD) a6 (λmL=>alI aw 1e6 _ n aD) 48e4 13e9 (r sh _ ns _ C.h3 hs s x)
def amJ(s:KV .j2 v)(C:18 [21e3,1e3])(r:7e4)(e:30e6)(p:76 ts):48 (v::aD):=by
 (show aN s λn a h=>?_;try clear s;subst a);have hs:70 {aG b with c1:=n}:=5e3;have x:81 {aG b with c1:=n} (k+1):={C.apx.up with c1:=h};exact fW C r aq hs x e.eQ (akQ aw sh 1e2 k (k+1) _ n aD) a6 (λmL=>alJ aw 1e6 _ n aD) 48e4 13e9 (p sh _ ns _ C.h3 hs x e)
def amK(x:KV .rf v)(C:18 [21e3,1e8])(e:7e4)(h:30e6)(a:76 ts):48 (v::aD):=by
 have hs:70 {aG b with c2:=v}:=5e3;have s:81 {aG b with c2:=v} (k+1):={C.apx.up with c2:=x};exact fW C e aq hs s h.eQ (akR aw sh 1e2 k (k+1) _ v aD) a6 (λmL=>alK aw 1e6 _ v aD) 48e4 13e9 (a sh _ ns _ C.h3 hs s h)
universe e
def wg{l:I}{apt a n:K}(x:(l:K)<=apt)(s:apt<=7)(e:0<=a)(h:a+n<=(l:K)):106 n:=bN
def zd{l m:I}{apt a n:K}(x:(l:K)<=apt)(s:apt<=7)(e:0<=a)(h:a+n<=(l:K))(hm:m=n.aJ):106 m:=hm▸K.qx.bn (wg x s e h)
def Dg{l m:I}{apt a n:K}(e:(l:K)<=apt)(x:apt<=7)(b:0<=a)(p:0<=n)(h:a+n<=(l:K))(hm:m=n.aJ):l+m<=16777216:=
 have s:l<=7:=K.BU.mp (K.dW e x)
 have r:m<=l:=hm▸K.qx.bn (K.dW (K.NZ b) h)
 I.dW (I.BF s (I.dW r s)) aq
def W7{n:K}(h0:0<=n)(h:106 n):jM n=true:=by simp only[jM,al.lb,mW];lia
def Dh{l m:I}{apt n:K}(h:(l:K)+n<=apt)(s:apt<=7)(h0:0<=n)(hm:m=n.aJ):n<=16777216/\m<=16777216/\((l+m:I):K)<=apt:=
 have e:(m:K)=n:=hm▸K.um h0
 have b:n<=16777216:=K.dW (K.dW (K.NZ (K.nR l)) h) (K.dW s aq)
 ⟨b,K.BU.mp (e▸b),by rw[K.natCast_add,e];exact h⟩
def W8{l:I}{apt:K}(h:(l:K)<=apt)(s:apt<=7):106 l:=I.dW (K.BU.mp (K.dW h s)) aq
def eJ.cN{q:apv}{l:0e0}{v:V}{i:I}(h:eJ q l)(x:KV q v):eJ q (l.cN i v):=λw s=>by
 rcases D.B8 s with s|rfl
 ·exact h w s
 ·exact x
def eJ.lV{q:apv}{l m:0e0}(h:eJ q l)(hm:eJ q m):eJ q (l++m):=λw s=>(300 s) (h w) (hm w)
def eJ.fh{q:apv}{l:0e0}{n:I}(h:eJ q l):eJ q (l.fh n):=λw s=>h w (D.U7 s)
def eJ.fG{q:apv}{l:0e0}{n:I}(h:eJ q l):eJ q (l.fG n):=λw s=>h w (D.U8 s)
def eJ.pT{q:apv}{l:0e0}{x app:8e5}(h:eJ q l):eJ q (176 l):=h.fh.fG
def eJ.bW{q:apv}{l m:0e0}{x app:8e5}(h:eJ q l)(hm:eJ q m):eJ q (bW l x app m):=(h.fG.lV hm).lV h.fh
def wh{α:Type}(v:α)(n:K):dN [v] n=285 v:=by
 unfold dN;generalize n.aJ=m;induction m with
 |i4=>rfl
 |hG m ih=>rw[D.Lm,D.R8,ih,D.Lm];rfl
def ze{α:Type}(v:α)(n:K):(dN [v] n).U=n.aJ:=by rw[wh,D.Cz]
def eJ.br{q:apv}{v:V}{n:K}(h:KV q v):eJ q (dN [v] n):=λw s=>by
 rw[wh]at s;rw[D.ahJ s];exact h
def W9{q:apv}{l:0e0}{a:K}(h:eJ q l)(h0:0<=a)(x:a<l.U):∃v,dq l a=2e5/\KV q v:=by
 obtain⟨i,H⟩:=K.N0 h0;have s:i<l.U:=by exact K.Le.mp x
 exact⟨l[i],D.ic s,h _ (D.N1 s)⟩
def q7{α:Type}(apt m:8e4){a n:K}(x:0<=a)(s:0<=n)(h:a+n<=apt.U)(hm:m.U=n.aJ):(204 apt m).U=apt.U:=by
 rw[NV apt m x s h hm,D.hM,D.hM,D.qQ,D.sf,hm,I.NR (I.dW (I.tS ..) (NU x s h)),I.agu (NU x s h)]
def Di{α:Type}(l:8e4){n:K}(s:0<=n)(h:l.U=n.aJ):50 l 0 (0+n)=l:=by
 rw[(mO l (K.eC 0) s bN).1];rw[<-h];simp
def kt(t:K):apv:=if t=1 then .rx else .rf
def amL(t:K):22e4= .rf\/22e4= .rx:=by
 unfold kt;split
 ·exact 21e5
 ·exact 2e6
def wi{t:K}(s:7e3):0<=lm t/\lm t<=7:=by rcases s with H|rfl|rfl<;>decide
def c8.tb{b:MB}{k:I}{ns:33e1}(apx:20e7){t:K}(s:7e3):eJ 22e4 10e3/\5e2<=lm t:=by
 have h0:=apx.T0.2;have h1:=apx.T1.2;have h2:=apx.T2.2;rcases s with H|rfl|rfl
 ·exact⟨apx.T0.1,by refine(b.T0.U:K)<=6;exact I.BB.KY H H h0⟩
 ·exact⟨apx.T1.1,by refine(b.T1.U:K)<=4;exact I.BB.KY H H h1⟩
 ·exact⟨apx.T2.1,by refine(b.T2.U:K)<=7;exact I.BB.KY H H h2⟩
def c8.eZ{b:MB}{k:I}{ns:33e1}(apx:20e7){t:K}(x:7e3){l:0e0}(h:eJ 22e4 l)(s:(l.U:K)<=lm t):81 (226 l) k:=by
 rcases x with H|rfl|rfl
 ·have s:(l.U:K)<=6:=s;exact{apx with T0:=⟨h,by refine l.U<=6;lia⟩}
 ·have s:(l.U:K)<=4:=s;exact{apx with T1:=⟨h,by refine l.U<=4;lia⟩}
 ·have s:(l.U:K)<=7:=s;exact{apx with T2:=⟨h,by refine l.U<=7;lia⟩}
def N2{b:MB}{t:K}(s:7e3){oc:0e0}{en:V}{au apt:0e0}:ix (t.aJ+2) b oc en au apt=149 (226 apt) au:=by rcases s with H|rfl|rfl<;>rfl
def Xa{b:MB}{t:K}(s:7e3):226 10e3=b:=by rcases s with H|rfl|rfl<;>rfl
def Xb{t:K}(s:7e3):G4 (t.aJ+2):=by rcases s with H|rfl|rfl<;>(unfold G4;decide)
def Dj{b:MB}{au:0e0}{t:K}(x:7e3){S:0e0}{a n s:K}{t1 t2:al}{w:V}{T:0e1}(e:0<=a)(hs:0<=s)(k:0<=n)(r:s+n<=S.U)(h2:a+n<=(10e3).U)(p:106 n):mA aw 30e5 (373 (226 (319 S))) 0e6 [.Z (t.aJ+2),0e2,.ad S t1,.y s t2,0e3,w] T:=by
 have h:=C8 (d:=36) (b:=b) (oc:=4e2) (en:= 0e6) (au:=au) (t:=t1) (t2:=t2) (w:=w) (T:=T) (Xb x) e hs k r h2 p;rw[N2 x,N2 x,Xa x]at h;exact h
def amM{b:MB}{au:0e0}{t:K}(k:7e3){S:0e0}{a n:K}{t1 t2:al}{w:V}{T:0e1}(e:0<=a)(x:0<=n)(r:S.U=n.aJ)(h2:a+n<=(10e3).U)(p:106 n):mA aw 30e5 (373 (226 (204 10e3 S))) 0e6 [.Z (t.aJ+2),0e2,.ad S t1,.y 0 t2,0e3,w] T:=by
 have h:=Dj (b:=b) (au:=au) (S:=S) (s:=0) (t1:=t1) (t2:=t2) (w:=w) (T:=T) k e (K.eC 0) x bN h2 p;rw[Di _ x r]at h;exact h
def wj{b:MB}{au:0e0}{t:K}(x:7e3){S:0e0}{a n s:K}{t1 t2:al}{w:V}{T:0e1}(h:¬(s+n<=S.U/\a+n<=(10e3).U)):mA aw 30e5 30e5 w [.Z (t.aJ+2),0e2,.ad S t1,.y s t2,0e3,w] T:=by
 have h:=wc (d:=36) (b:=b) (oc:=4e2) (en:= 0e6) (au:=au) (apt:=10e3) (t:=t1) (t2:=t2) (w:=w) (T:=T) (Xb x) h;rw[N2 x,Xa x]at h;exact h
def amN{d:I}{t s n:K}(e:7e3)(h0:0<=n)(h:s+n<=lm t):58 aw (d+1) 478 [0e8,0e3,A7 t,16e9] (s+n):=by
 have x:=(wi e).2;rcases e with H|rfl|rfl
 ·exact NK h0 ⟨by exact K.dW h x,h⟩
 ·exact NK h0 ⟨by exact K.dW h x,h⟩
 ·exact akD h0 h
def amO{d:I}{t s n:K}(x:7e3)(h0:0<=n)(h:¬s+n<=lm t):cw aw (d+1) 478 [0e8,0e3,A7 t,16e9] 0e6:=by
 rcases x with H|rfl|rfl
 ·exact NL h0 λq=>h q.2
 ·exact NL h0 λq=>h q.2
 ·exact akE h0 h
section
variable{mL:I->aps}{sh:Sh}{b b0:MB}{k:I}{ns:D (K×V)}{ts:D apv}{aD:D V}
def amP{t:K}(s:7e3){v:V}(x:30e3)(C:18 [38e2,1e1])(m:7e4)(h0:14e1)(n:76 [22e4]):48 [v]:=by
 show ij x λa r=>?_;by_cases h:a+1<=5e2
 ·obtain⟨v,e,x⟩:=W9 (52e4).1 r.1 (by exact K.amQ h);have p:ef [22e4] [v]:=⟨x,d2⟩;exact 123 m aq p.eQ (ak8 aw sh 1e2 k (k+1) _ t s a v) (130 (184 r.1 aq h) e 24e7) (λmL=>alV aw 1e6 _ t s a v) (179 (fX (show¬5e2<=a by exact K.jV.bn h)) (24 e 24e7)) (n sh _ ns _ C.h3 5e3 C.apx.up p)
 ·exact 242 aq (λw=>rfl) (ak7 aw sh 1e2 k (k+1) _ t s a 0e6) (245 ⟨r.1,aq,by refine 5e2<a+1;exact K.wk h⟩) (alU aw 1e6 _ t s a 0e6) (179 (eE (show 5e2<=a by exact K.dv.mp h)) a6)
def amR{t:K}(s:7e3){v w:V}(p:KV 22e4 w)(r:30e3)(C:18 [0 38,1e1])(m:7e4)(h0:14e1)(q:32e2):48 [w,v]:=by
 show ij r λa x=>?_;by_cases h:a+1<=5e2
 ·have hs:70 (32e9 t ((10e3).cN a.aJ w)):=5e3;have e:81 (32e9 t ((10e3).cN a.aJ w)) (k+1):=C.apx.up.eZ s ((52e4).1.cN p) (by rw[D.vM];exact(52e4).2);have hd:bK (0<=a/\a<5e2)=true:=eE ⟨x.1,by exact K.amQ h⟩;exact fW C m aq hs e (λn=>rfl) (ala aw sh 1e2 k (k+1) _ t s a w) (24 (184 x.1 aq h) hd) (λmL=>alX aw 1e6 _ t s a w) (232 (fX (show¬5e2<=a by exact K.jV.bn h)) hd) 13e9 (q sh _ ns [] C.h3 hs e d2)
 ·exact 242 aq (λn=>rfl) (ak9 aw sh 1e2 k (k+1) _ t s a w) (245 ⟨x.1,aq,by refine 5e2<a+1;exact K.wk h⟩) (alW aw 1e6 _ t s a w) (179 (eE (show 5e2<=a by exact K.dv.mp h)) a6)
def amS{t:K}(s:7e3)(C:18 [48e8,1e1])(x:7e4)(e:76 [.x]):48 []:=by
 have h:ef [.x] [20e9]:=⟨19e7,d2⟩;exact 123 x aq h.eQ (alb aw sh 1e2 k (k+1) _ t s) (39 24e7) (λmL=>alY aw 1e6 _ t s) (179 24e7 a6) (e sh _ ns _ C.h3 5e3 C.apx.up h)
def amT{t:K}(s:7e3){v w:V}(c:128 w)(o:KV 22e4 v)(C:18 [39e3,1e1])(j:7e4)(l:76 [.x]):48 [w,v]:=by
 show ij c λn x=>?_;have d:=(52e4).2;have e:=wi s;have u:((5e2).aL 1)=(10e3).U:=by rw[K.NI _ aq,K.ediv_one]
 by_cases h:5e2+n<=lm t
 ·have hs:70 (32e9 t (10e3++dN [v] n)):=5e3;have p:(dN [v] n).U=n.aJ:=ze v n;have m:(((b.tb t)++dN [v] n).U:K)<=lm t:=by rw[D.hM];exact(Dh h e.2 x.1 p).2.2
  have i:81 (32e9 t (10e3++dN [v] n)) (k+1):=C.apx.up.eZ s ((52e4).1.lV (eJ.br o)) m;have a:ef [.x] [20e9]:=⟨19e7,d2⟩;have q:jM n=true:=W7 x.1 (Dh h e.2 x.1 p).1;have hm:a9 .f4 n 1=true:=al.tR.bn (.aE (eE aq));have r:=λmL:4e8=>(by
   have r:=al0 aw 1e6 (1e7++[(131,.X [39e3,1e1])]) t s n v
   rw[K.mul_one]at r
   rw[show((((aG (lw mL b)).tb t).U:K).aL 1)=5e2 from u]at r
   exact r:_)
  exact fW C j aq hs i a.eQ (ald aw sh 1e2 k (k+1) _ t s n v) (ac (amN s x.1 h) (27 q (Dh h e.2 x.1 p).2.1 (W8 m e.2) 24e7)) r (λmL=>(126 H (fX (show¬(lm t<5e2+n) by exact K.AA h)) hm q (ac (Dh h e.2 x.1 p).2.1 (72 (W8 m e.2) 24e5 a6)))) 13e9 (l sh _ ns _ C.h3 hs i a)
 ·have a:ef [.x] [44e8]:=⟨19e7,d2⟩;exact 123 j aq a.eQ (alc aw sh 1e2 k (k+1) _ t s n v) (24 (amO s x.1 h) 24e5) (λmL=>alZ aw 1e6 _ t s n v) (179 H (24 (eE (show(lm t<(5e2).aL 1+n) by rw[u];exact K.jV.mp h)) 24e5)) (l sh _ ns _ C.h3 5e3 C.apx.up a)
def amU{t:K}(e:7e3){v w x:V}(o:128 w)(l:KV 22e4 v)(f:128 x)(C:18 [33e6,1e1])(c:7e4)(h0:14e1)(app:32e2):48 [w,v,x]:=by
 show ij o λn r=>?_;show ij f λa h=>?_;have p:=(C.apx.tb e).2;have q:=wi e;by_cases s:a+n<=5e2
 ·have m:(dN [v] n).U=n.aJ:=ze v n;have hs:70 (32e9 t (204 10e3 (dN [v] n))):=5e3;have j:81 (32e9 t (204 10e3 (dN [v] n))) (k+1):=406 e ((C.apx.tb e).1.bW (eJ.br l)) (q7 _ _ h.1 r.1 s m) p;have i:jM n=true:=W7 r.1 (wg p q.2 h.1 s);have u:=λmL:4e8=>(by
   have u:=al2 aw 1e6 (1e7++[(131,.X [33e6,1e1])]) t e n a v
   rw[Di _ r.1 m]at u
   exact u:_)
  exact fW C c aq hs j (λd=>rfl) (alf aw sh 1e2 k (k+1) _ t e n a v) (27 (184 h.1 r.1 s) i (zd p q.2 h.1 s m) (Dg p q.2 h.1 r.1 s m)) u (λmL=>(27 (fX (show¬5e2<a+n by exact K.AA s)) i (zd p q.2 h.1 s m) (amM (b:=1e6) e h.1 r.1 m s (wg p q.2 h.1 s)))) 13e9 (app sh _ ns [] C.h3 hs j d2)
 ·exact 242 aq (λd=>rfl) (ale aw sh 1e2 k (k+1) _ t e n a v) (245 ⟨h.1,r.1,53e3⟩) (al1 aw 1e6 _ t e n a v) (179 (eE 53e3) a6)
def amV{i:K}(s:16e0)(C:18 [48e9,6e5])(x:7e4)(e:32e2):48 []:=by
 have hs:70 ((1e2).fB i 0e6):=5e3;have h:81 ((1e2).fB i 0e6) (k+1):=by
  rcases s with H|rfl
  ·exact{C.apx.up with e0:= 2e6}
  ·exact{C.apx.up with e1:= 2e6}
 exact fW C x aq hs h 52e3 (m_edr aw sh 1e2 k (k+1) _ i s) a6 (λmL=>al6 aw 1e6 _ i s) 48e4 13e9 (e sh _ ns [] C.h3 hs h d2)
universe e
def CP.Y(h:CP x app):ee x/\ee app/\kt app=kt x:=by
 rcases h with⟨H,H⟩|⟨H,H⟩|⟨H,H⟩|⟨H,H⟩|⟨H,H⟩<;>exact⟨by unfold ee;decide,by unfold ee;decide,H⟩
def amW(h:IN e t)(b:MB)(s:b.el e=v):b.fB e v=b:=by subst s;rcases h with⟨H,H⟩|⟨H,H⟩|⟨H,H⟩<;>rfl
def c8.el{k:I}{ns:33e1}(apx:20e7){e t:K}(h:IN e t):7e3/\(b.el e= 0e6\/∃l,b.el e= 6 l/\eJ 22e4 l/\l.U<=4/\0<l.U):=by
 have h0:b.e0= 0e6\/∃l,b.e0= 6 l/\eJ .rf l/\l.U<=4/\0<l.U:=apx.e0.f5 id (by rintro⟨l,a,c,d⟩;exact⟨l,a,c,by exact I.hZ d,by exact I.N3 d⟩);have h1:b.e1= 0e6\/∃l,b.e1= 6 l/\eJ .rx l/\l.U<=4/\0<l.U:=apx.e1.f5 id (by rintro⟨l,a,c,d⟩;exact⟨l,a,c,bN,by exact I.N3 d⟩);rcases h with⟨H,H⟩|⟨H,H⟩|⟨H,H⟩
 ·exact⟨by unfold ee;decide,h0⟩
 ·exact⟨by unfold ee;decide,h0⟩
 ·exact⟨by unfold ee;decide,h1⟩
section
variable{mL:I->aps}{sh:Sh}{b b0:MB}{k:I}{ns:D (K×V)}{ts:D apv}{aD:D V}
def amX(p:CP x app)(apA:128 u)(g:30e3)(P:128 w)(C:18 [28e7,0 x,17e1])(apq:7e4)(h0:14e1)(R:32e2):48 [u,v,w]:=by
 show ij apA λn e=>?_;show ij g λs hs=>?_;show ij P λa q=>?_;obtain⟨m,d,V⟩:=CP.Y p;have j:=(C.apx.tb m).2;have apw:=(C.apx.tb d).2;have c:=wi m;have W:=wi d;have l:(18e5).U<=16777216:=bN;by_cases i:s+n<=50e9
 ·have o:=(mO 18e5 hs.1 e.1 i).2;by_cases r:a+n<=55e2
  ·have f:70 (32e9 x (235 (b.tb x) 18e5)):=5e3;have t:81 (32e9 x (235 (b.tb x) 18e5)) (k+1):=406 m ((C.apx.tb m).1.bW (V▸(C.apx.tb d).1.pT)) (q7 _ _ q.1 e.1 r o) j;exact fW C apq aq f t (λz=>rfl) (ali aw sh 1e2 k (k+1) _ x app p n s a) (27 (249 e.1 i) (184 q.1 e.1 r) (zd j c.2 q.1 r o) (Dg j c.2 q.1 e.1 r o)) (λmL=>al3 aw 1e6 _ x app p n s a) (232 l (Dj (b:=1e6) (S:=18e5) m q.1 hs.1 e.1 i r (wg j c.2 q.1 r))) 13e9 (R sh _ ns [] C.h3 f t d2)
  ·exact 242 aq (λz=>rfl) (alh aw sh 1e2 k (k+1) _ x app p n s a) (24 (249 e.1 i) (kq ⟨q.1,e.1,show 55e2<a+n by exact K.wk r⟩)) (WM aw 1e6 _ x app p n s a) (232 l (370 18e5 m (r h.2)))
 ·exact 242 aq (λz=>rfl) (alg aw sh 1e2 k (k+1) _ x app p n s a) (245 ⟨hs.1,e.1,show 50e9<s+n by exact K.wk i⟩) (WM aw 1e6 _ x app p n s a) (232 l (370 18e5 m (i h.1)))
def amY(m:IN e t)(apu:128 u)(apr:30e3)(x:128 w)(C:18 [8e7,11e5,1e1])(B:7e4)(h0:14e1)(A:32e2):48 [u,v,w]:=by
 show ij apu λn r=>?_;show ij apr λs hs=>?_;show ij x λa q=>?_;obtain⟨i,apx⟩:=C.apx.el m;have c:=(C.apx.tb i).2;have z:=wi i;have d:∀(apq:MB) {v:V},apq.el e=v->apq.fB e v=apq:=λapq v h=>amW m apq h;rcases apx with o|⟨l,o,apA,apE,E⟩
 ·have apE:(27e2).U=0:=H;clear apE;have apA:eJ 22e4 27e2:=λg h=>nomatch h;have app:=d 1e2 o;by_cases j:s+n<=(([]:D V).U:K)
  ·have f:=(mO 27e2 hs.1 r.1 j).2;by_cases p:a+n<=5e2
   ·have P:70 (32e9 t 49e9):=5e3;have R:81 (32e9 t 49e9) (k+1):=406 i ((C.apx.tb i).1.bW apA.pT) (q7 _ _ q.1 r.1 p f) c;have hm:=m_tinn2 aw sh 1e2 k (k+1) (32 [8e7,11e5,1e1]) e t m n s a;rw[app]at hm;have x:=λmL:4e8=>(by
     have x:=al5 aw 1e6 (1e7++[(131,.X [8e7,11e5,1e1])]) e t m n s a
     rw[d 1e6 o]at x
     exact x:_)
    exact fW C B aq P R 45e4 hm (27 (249 r.1 j) (184 q.1 r.1 p) (zd c z.2 q.1 p f) (Dg c z.2 q.1 r.1 p f)) x (λmL=>((39 (Dj (b:=1e6) (S:=27e2) i q.1 hs.1 r.1 j p (wg c z.2 q.1 p))))) 13e9 (A sh _ ns [] C.h3 P R d2)
   ·have hm:=m_tinn1 aw sh 1e2 k (k+1) (32 [8e7,11e5,1e1]) e t m n s a;rw[app]at hm;have x:=λmL:4e8=>(by
     have x:=WO aw 1e6 (1e7++[(131,.X [8e7,11e5,1e1])]) e t m n s a
     rw[d 1e6 o]at x
     exact x:_)
    exact je C aq 5e3 C.apx.up h0 45e4 hm (24 (249 r.1 j) (kq ⟨q.1,r.1,show 5e2<a+n from K.jV.mp p⟩)) x (λmL=>((39 (370 27e2 i (p h.2))))) 13e9 av
  ·have apD:(([]:D V).U:K)<s+n:=bN;have hm:=m_tinn0 aw sh 1e2 k (k+1) (32 [8e7,11e5,1e1]) e t m n s a;rw[app]at hm;have x:=λmL:4e8=>(by
    have x:=WO aw 1e6 (1e7++[(131,.X [8e7,11e5,1e1])]) e t m n s a
    rw[d 1e6 o]at x
    exact x:_)
   exact je C aq 5e3 C.apx.up h0 45e4 hm (245 ⟨hs.1,r.1,apD⟩) x (λmL=>((39 (370 27e2 i (j h.1))))) 13e9 av
 ·have apw:(!l.jL)=true:=by cases l with|aR=>exact bM E aq|aQ _ _=>rfl
  have W:l.U<=16777216:=bN;have app:=d 1e2 o;by_cases j:s+n<=(l.U:K)
  ·have f:=(mO l hs.1 r.1 j).2;by_cases p:a+n<=5e2
   ·have P:70 (32e9 t (319 l)):=5e3;have R:81 (32e9 t (319 l)) (k+1):=406 i ((C.apx.tb i).1.bW apA.pT) (q7 _ _ q.1 r.1 p f) c;clear apA;have hm:=m_tinb2 aw sh 1e2 k (k+1) (32 [8e7,11e5,1e1]) e t m n s a l;rw[app]at hm;have x:=λmL:4e8=>(by
     have x:=al4 aw 1e6 (1e7++[(131,.X [8e7,11e5,1e1])]) e t m n s a l
     rw[d 1e6 o]at x
     exact x:_)
    exact fW C B aq P R 45e4 hm (27 (249 r.1 j) (184 q.1 r.1 p) (zd c z.2 q.1 p f) (Dg c z.2 q.1 r.1 p f)) x (179 apw (24 W (Dj (b:=1e6) (S:=l) i q.1 hs.1 r.1 j p (wg c z.2 q.1 p)))) 13e9 (A sh _ ns [] C.h3 P R d2)
   ·have hm:=alk aw sh 1e2 k (k+1) (32 [8e7,11e5,1e1]) e t m n s a l;rw[app]at hm;have x:=λmL:4e8=>(by
     have x:=WN aw 1e6 (1e7++[(131,.X [8e7,11e5,1e1])]) e t m n s a l
     rw[d 1e6 o]at x
     exact x:_)
    exact je C aq 5e3 C.apx.up h0 45e4 hm (24 (249 r.1 j) (kq ⟨q.1,r.1,show 5e2<a+n from K.jV.mp p⟩)) x (179 apw (24 W (370 l i (p h.2)))) 13e9 av
  ·have apD:(l.U:K)<s+n:=bN;have hm:=alj aw sh 1e2 k (k+1) (32 [8e7,11e5,1e1]) e t m n s a l;rw[app]at hm;have x:=λmL:4e8=>(by
    have x:=WN aw 1e6 (1e7++[(131,.X [8e7,11e5,1e1])]) e t m n s a l
    rw[d 1e6 o]at x
    exact x:_)
   clear o;exact je C aq 5e3 C.apx.up h0 45e4 hm (245 ⟨hs.1,r.1,apD⟩) x (179 apw (24 W (370 l i (j h.1)))) 13e9 av
universe e
def N4{α β:Type}(f:α->β)(l:8e4)(x app:8e5):(176 l).aj f=176 (l.aj f):=by
 simp only[bE,D.map_take,D.VG,D.fq]
def zf{α β:Type}(f:α->β)(l m:8e4)(x app:8e5):(bW l x app m).aj f=bW (l.aj f) x app (m.aj f):=by
 simp only[bW,D.sA,D.map_take,D.VG,D.fq]
def amZ{α β:Type}(f:α->β)(v:α)(n:K):(dN [v] n).aj f=dN [f v] n:=by
 rw[wh,wh,D.Dk]
def N5(i:K)(h:0<=i/\i<256):bB 48e2= 14e8:=by
 unfold bB;have:(48e2).aJ=i.aJ:=by rw[be.toNat_ofNat'];exact I.mod_eq_of_lt ((K.C0 h.1).bn h.2)
 rw[bb];have h2:(i.aJ:K)=i:=K.um h.1;rw[h2]
def am0{b:MB}{oc au:0e0}(x:oc.aj dG=(4e2).aj dG){b0:MB}{ex:0e1}:gb 51 (85 b oc au) 30e5 (b2 b0++ex) (b2 b0) 39e7:=by
 show⟨⟨λi o e=>?_,λi h=>?_,λi j s s h=>h,λk v e=>⟨v,wb e,by rw[n6]⟩⟩,λi s=>rfl,I.hZ (uw ..).bi⟩
 ·rw[uu];match i,e with
  |0,e=>exact⟨o,e,H⟩
  |1,e=>
   have e2:aps.az 4e2 true=o:=11e6;subst e2;show⟨37 oc,H,?_⟩;simp only[eI,yV,x]
  |i+2,e=>exact⟨o,e,H⟩
 ·exact h
def am1{b b':MB}(a:oa b')(r:21 b.B b.B)(e1:b'.B=b.B)(e2:b'.apr=b.apr){k:I}{c:K}{aD:0e0}(v:c∈jQ)(h:b.B[k]? =G (.X (1e5::aD))){oc au b7:0e0}(w:oc.aj dG=(36e1).aj dG)(e:21 oc oc)(hs:21 b7 b7){o:2e1}{ca:6e1}{bI:fj}
  (dj:288 1e2 (1e5::aD) au (1e7++[(131,.X (1e5::aD))]) o=201 b' oc b7 (1e7++[(131,.X (1e5::aD))]) ca) (q1:13e1) (IH:LC b' (k+1) b7 bI):LC b k au bI:=by
 have hd:=y9 a r h e (λm=>rfl) hs (λm=>rfl) dj q1;have x:b2 b'=1e7:=by unfold b2;rw[e1,e2]
 have n:=v9 (a3:= 24e4) (f:=λi=>i) (fL:=ad b' 0e6 b7) (gc:=1e7) (QQ aw b b' oc au b7 aD c v) (λp s=>by rw[D.cZ]at s;exact s▸hd) (am0 w (b0:=b));show yY (NX h) (NY b _ _) n ?_;unfold LC at IH;rw[e1,x]at IH;exact IH
def N6{l m:I}{a n:K}(r:l=16\/l=32)(x:0<=a)(p:0<=n)(h:a+n<=(l:K))(hm:m=n.aJ):l+m<=16777216:=
 have b:m<=l:=hm▸K.qx.bn (K.dW (K.NZ x) h)
 have s:l<=32:=by rcases r with e|e<;>rw[e]<;>decide
 I.dW (I.BF s (I.dW b s)) aq
def N7{l:I}{a n:K}(s:l=16\/l=32)(x:0<=a)(h:a+n<=(l:K)):106 n:=
 K.dW (K.dW (K.NZ x) h) (by rcases s with e|e<;>rw[e]<;>decide)
def am2{l:I}{Q n:K}(s:Q=1/\l=16\/Q=2/\l=32)(h0:0<=n)(h:Q+n<=2):(l+(n*16).aJ=16\/l+(n*16).aJ=32)/\jM (n*16)=true/\Q+n<=3/\(0<=n*16/\n*16<=16777216)/\l+(n*16).aJ<=16777216/\(n*16).aJ<=16777216:=by
 rcases s with⟨H,H⟩|⟨H,H⟩
 ·have:n=0\/n=1:=bN;rcases bb with H|rfl<;>decide
 ·have:n=0:=bN;subst bb;decide
section
variable{mL:I->aps}{sh:Sh}{b b0:MB}{k:I}{ns:D (K×V)}{ts:D apv}{aD:D V}
def am3{b':MB}{e:33e1}{au b7:0e0}{c:K}{r:0e0}{o:2e1}{o2:4e8->2e1}{ca:6e1}{s:4e8->6e1}{oc:4e8->0e0}(C:18 (1e5::r))(m:7e4)(n:c∈jQ)(hs:34e8)(a:c8 b' (k+1) e)(x:21 b7 b7)
  (dj:302 (k+1) (1e5::r) au (1e5::r) o=ea (b1 sh b' (k+1) b7) (32 (1e5::r)) ca) (ho:13e1)
  (l7:∀mL,288 1e6 (1e5::r) au (1e7++[(131,.X (1e5::r))]) (o2 mL)=201 23e4 33e0 b7 (1e7++[(131,.X (1e5::r))]) (s mL)) (l8:∀mL,∀p∈s mL,p) (q6:∀mL,(33e0).aj dG=(36e1).aj dG) (hof:∀mL,∀f,bQ f 33e0=33e0)
  (IH:apF mL b0 sh b' (k+1) b7):32e1:=
 zb hs (λapu h=>Wx dj ho C.at (zc hs m) h) (λmL hL bI h=>am1 (b:=14e0) (b':=23e4) (a.oh hL) C.apx.B.1 hs.2.1 hs.2.2.2 n C.hr (q6 mL) (hof mL) x (l7 mL) (l8 mL) h) IH
def am4(C:18 [0 63])(r:7e4)(p:76 [.x]):48 []:=by
 have a:=C.apx.aO;have e:ef [.x] [2 ((10e2).aL 16)]:=⟨19e7,d2⟩;have x:=λmL:4e8=>(by
  have x:=alL aw 1e6 (1e7++[(131,.X [0 63])])
  rw[D.dZ,D.fq]at x
  exact x:_)
 have s:15 10e2 16=true:=H;have hd:bK ((2:K)<((10e2).aL 16)+0)=false:=by rcases a with h|h<;>rw[h]<;>decide
 exact 123 r aq e.eQ (akS aw sh 1e2 k (k+1) _) (24 s (by exact I.cz s)) x (λmL=>(27 s hd (show b.aO.U<=16777216 by lia) (by exact I.cz s))) (p sh _ ns _ C.h3 5e3 C.apx.up e)
def am5{v:V}(o:30e3)(C:18 [17e2])(u:7e4)(w:76 [.x]):48 [v]:=by
 show ij o λn p=>?_;have d:=C.apx.aO;have a:15 10e2 16=true:=H;have m:(10e2).aL 16=1/\b.aO.U=16\/(10e2).aL 16=2/\b.aO.U=32:=by rcases d with h|h<;>rw[h]<;>decide
 generalize r:(b.aO.U:K).aL 16=Q at m;have fP:a9 .f4 n 16=true:=al.tR.bn (.aE (eE aq));have j:((aG b).aO.U:K).aL 16=Q:=r;by_cases e:Q+n<=2
 ·show zr (am2 m p.1 e) λapp c a3 z l t=>?_;have hm:=akU aw sh 1e2 k (k+1) (32 [17e2]) n;have s:=λmL:4e8=>(by
   have s:=alN aw 1e6 (1e7++[(131,.X [17e2])]) n
   rw[D.fq]at s
   rw[show((aG (lw mL b)).aO.U:K).aL 16=Q from r]at s
   exact s:_)
  rw[j]at hm;have q:(412 (n*16)).U=(n*16).aJ:=ze _ _;have hs:70 {aG b with aO:=b.aO++D.gi (n*16).aJ (0:be)}:=5e3;have i:81 {aG b with aO:=b.aO++D.gi (n*16).aJ (0:be)} (k+1):={C.apx.up with aO:=by refine(b.aO++D.gi (n*16).aJ (0:be)).U=16\/(b.aO++D.gi (n*16).aJ (0:be)).U=32;rw[D.hM,D.Cz];exact app};have x:ef [.x] [2 Q]:=⟨19e7,d2⟩;exact am3 C u aq hs i x.eQ hm (72 a (NK p.1 (show Q+n<=3/\Q+n<=2 from⟨a3,e⟩)) (27 fP (eE z) (show b.aO.U+(D.gi (n*16).aJ (0:be)).U<=16777216 by rw[D.Cz];exact l) 24e5)) s (179 a (72 (127 e) fP (27 c (by rw[q];exact t) (by rw[D.hM,q,D.fq];exact l) 24e5)))
   (λmL=>(by
     refine(4e2++dN [V.y 0 false] (n*16)).aj dG=((b.aO++D.gi (n*16).aJ (0:be)).aj bB).aj dG
     rw[wh,D.sA,D.sA,D.sA,D.Dk,D.Dk,D.Dk]
     rfl))
   (λmL=>(λf=>by rw[wh,lE,D.sA,D.Dk,<-lE,og];rfl)) (w sh _ ns _ C.h3 hs i x)
 ·have hm:=akT aw sh 1e2 k (k+1) (32 [17e2]) n;have s:=λmL:4e8=>(by
   have s:=alM aw 1e6 (1e7++[(131,.X [17e2])]) n
   rw[D.fq]at s
   rw[show((aG (lw mL b)).aO.U:K).aL 16=Q from r]at s
   exact s:_)
  rw[j]at hm;have x:ef [.x] [44e8]:=⟨19e7,d2⟩;exact 123 u aq x.eQ hm (130 a (NL p.1 (λh=>e h.2)) 24e5) s (179 a (24 (eE (K.jV.mp e)) 24e5)) (w sh _ ns _ C.h3 5e3 C.apx.up x)
def am6{u v w:V}(d:128 u)(o:30e3)(c:128 w)(C:18 [20e8])(f:7e4)(h0:14e1)(app:32e2):48 [u,v,w]:=by
 show ij d λn x=>?_;show ij o λs hs=>?_;show ij c λa r=>?_;have m:=C.apx.aO;have hL:(4e2).U=b.aO.U:=D.fq ..;by_cases p:s+n<=10e2
 ·have l:=(mO b.aO hs.1 x.1 p).2;by_cases e:a+n<=10e2
  ·have q:70 (365 b.aO):=5e3;have t:=q7 b.aO _ r.1 x.1 e l;have i:81 (365 b.aO) (k+1):=(387 (211 b.aO) (211 b.aO).U t m);exact fW C f aq q i (λj=>rfl) (akZ aw sh 1e2 k (k+1) _ n s a) (130 (249 x.1 p) (184 r.1 x.1 e) (N6 m r.1 x.1 e l)) (λmL=>alQ aw 1e6 _ n s a) (179 (aly (b:=1e6) (oc:=[]) (en:= 0e6) (au:=[]) (apt:=4e2) r.1 hs.1 x.1 (390 p) (390 e) (N7 m r.1 e)) a6)
    (λmL=>(by refine 246 4e2=(211 b.aO).aj bB;rw[zf,N4])) (app sh _ ns [] C.h3 q i d2)
  ·exact 242 aq (λj=>rfl) (akY aw sh 1e2 k (k+1) _ n s a) (24 (249 x.1 p) (kq ⟨r.1,x.1,show 10e2<a+n by exact K.wk e⟩)) (WJ aw 1e6 _ n s a) (179 (WH (b:=1e6) (oc:=[]) (en:= 0e6) (au:=[]) (apt:=4e2) (λh=>e (hL▸h.2))) a6)
 ·exact 242 aq (λj=>rfl) (akX aw sh 1e2 k (k+1) _ n s a) (245 ⟨hs.1,x.1,show 10e2<s+n by exact K.wk p⟩) (WJ aw 1e6 _ n s a) (179 (WH (b:=1e6) (oc:=[]) (en:= 0e6) (au:=[]) (apt:=4e2) (λh=>p (hL▸h.1))) a6)
def am7{u v w:V}(o:KV .s8 u)(f:30e3)(t:128 w)(C:18 [16e1])(apA:7e4)(h0:14e1)(P:32e2):48 [u,v,w]:=by
 (show aN o λn apq r=>?_;try clear o;subst apq);show ij f λs hs=>?_;show ij t λa j=>?_;have z:=C.apx.aO;have hL:(4e2).U=b.aO.U:=D.fq ..;have apw:339 s=s % 256:=y4 s;have W:s.ah 256=s % 256:=l9 s aq;have hr:0<=s % 256/\s % 256<256:=⟨K.nh _ aq,K.n9 _ aq⟩;have fP:9 s 256=true:=H;have p:∀x:V,(dN [x] n).U=n.aJ:=λx=>ze x n;by_cases m:a+n<=10e2
 ·have l:jM n=true:=by simp only[jM,al.lb,mW];lia
  have R:(dN [42e4] n).U=n.aJ:=ze _ n;have apD:=q7 b.aO _ j.1 r.1 m R;have c:70 {aG b with aO:=204 b.aO (dN [42e4] n)}:=5e3;have d:81 {aG b with aO:=204 b.aO (dN [42e4] n)} (k+1):=(387 (204 b.aO (dN [42e4] n)) (204 b.aO (dN [42e4] n)).U apD z);have hm:=akW aw sh 1e2 k (k+1) (32 [16e1]) n s a;rw[apw]at hm;have e:=λmL:4e8=>(by
   have e:=alP aw 1e6 (1e7++[(131,.X [16e1])]) n s a
   rw[W,Di _ r.1 (p _)]at e
   exact e:_)
  have q:=λmL:4e8=>(by
   have q:= @C8 36 1 (by unfold G4;decide) 1e6 4e2 0e6 [] 4e2 (dN [2 (s % 256)] n) a n 0 true false 2e7 [(98,6e3),(131,.X [16e1]),(132,10e6),(6,16e1),(113,8 [13e5,13e6,13e7]),(9,0e3),(139,0e8),(42,0e2),(137,6 (dN [2 (s % 256)] n)),(49,0e7)] j.1 (K.eC 0) r.1 (by rw[p];lia) (390 m) bN
   rw[Di _ r.1 (p _)]at q
   exact q:_)
  have apE:([s % 256].dJ (289 (i<256)))=true:=by
   simp only[D.td,D.all_nil,al.te,al.lb,mW];exact hr
  have app:xr [42e4] n=true:=by
   simp only[xr,al.lb,mW];exact⟨⟨(238 bN),bN⟩,H⟩
  exact fW C apA aq c d (λA=>rfl) hm (27 (184 j.1 r.1 m) apE app (show b.aO.U+(dN [42e4] n).U<=_ by lia)) e (λmL=>(27 fP l (by rw[p];lia) (q mL)))
   (λmL=>(by refine 204 4e2 (dN [2 (s % 256)] n)=(204 b.aO (dN [42e4] n)).aj bB;rw[zf,amZ,N5 _ hr])) (P sh _ ns [] C.h3 c d d2)
 ·have l:jM n=true:=by simp only[jM,al.lb,mW];lia
  have e:=λmL:4e8=>alO aw 1e6 (1e7++[(131,.X [16e1])]) n s a;exact je C aq 5e3 C.apx.up h0 (λA=>rfl) (akV aw sh 1e2 k (k+1) _ n s a) (245 ⟨j.1,r.1,show 10e2<a+n by lia⟩) e (λmL=>(27 fP l (by rw[p];lia) (wc (g:=1) (b:=1e6) (oc:=4e2) (en:= 0e6) (au:=[]) (apt:=4e2) (S:=dN [2 (s.ah 256)] n) (by unfold G4;decide) (λh=>m (hL▸h.2))))) 13e9 av
def sF{i:K}(h:16e0)(b:MB){v:V}(s:b.dl i=v):b.fI i v=b:=by subst s;rcases h with H|rfl<;>rfl
def c8.dl(apx:20e7){i:K}(h:16e0):b.dl i= 0e6\/∃l,b.dl i= .ch l/\l.U<=8/\0<l.U:=by
 have h0:b.d0= 0e6\/∃l,b.d0= .ch l/\l.U<=8/\0<l.U:=apx.d0.f5 id (by rintro⟨l,a,c⟩;exact⟨l,a,by exact I.hZ c,by exact I.N3 c⟩);have h1:b.d1= 0e6\/∃l,b.d1= .ch l/\l.U<=8/\0<l.U:=apx.d1.f5 id (by rintro⟨l,a,c⟩;exact⟨l,a,bN,by exact I.N3 c⟩);rcases h with H|rfl
 ·exact h0
 ·exact h1
def am8{i:K}(e:16e0){u v w:V}(apE:128 u)(W:30e3)(x:128 w)(C:18 [8e6,6e5])(apA:7e4)(h0:14e1)(apq:32e2):48 [u,v,w]:=by
 show ij apE λn r=>?_;show ij W λs hs=>?_;show ij x λa m=>?_;have c:=C.apx.aO;have hL:(4e2).U=b.aO.U:=D.fq ..;rcases C.apx.dl e with hd|⟨l,hd,R,apw⟩
 ·have R:([]:4e9).U=0:=H;clear R;have apD:(27e2).U=0:=H;have j:=sF e 1e2 hd;by_cases q:s+n<=(([]:D be).U:K)
  ·have d:=(mO ([]:4e9) hs.1 r.1 q).2;have o:s+n<=(([]:D V).U:K):=by exact K.le_def.bn q
   by_cases p:a+n<=10e2
   ·have z:=q7 b.aO _ m.1 r.1 p d;have f:70 (365 ([]:4e9)):=5e3;have t:81 (365 ([]:4e9)) (k+1):=(387 (211 ([]:4e9)) (211 ([]:4e9)).U z c);have hm:=ak5 aw sh 1e2 k (k+1) (32 [8e6,6e5]) i e n s a;rw[j]at hm;have x:=λmL:4e8=>(by
     have x:=alS aw 1e6 (1e7++[(131,.X [8e6,6e5])]) i e n s a
     rw[sF e 1e6 hd]at x
     exact x:_)
    exact fW C apA aq f t 47e8 hm (130 (249 r.1 q) (184 m.1 r.1 p) (N6 c m.1 r.1 p d)) x (λmL=>((39 (C8 (g:=1) (b:=1e6) (oc:=4e2) (en:= 0e6) (au:=[]) (apt:=4e2) (S:=[]) (by unfold G4;decide) m.1 hs.1 r.1 o (390 p) (N7 c m.1 p)))))
     (λmL=>(by refine 246 27e2=(211 ([]:4e9)).aj bB;rw[zf,N4];rfl)) (apq sh _ ns [] C.h3 f t d2)
   ·have hm:=ak4 aw sh 1e2 k (k+1) (32 [8e6,6e5]) i e n s a;rw[j]at hm;have x:=λmL:4e8=>(by
     have x:=WL aw 1e6 (1e7++[(131,.X [8e6,6e5])]) i e n s a
     rw[sF e 1e6 hd]at x
     exact x:_)
    exact je C aq 5e3 C.apx.up h0 47e8 hm (24 (249 r.1 q) (kq ⟨m.1,r.1,show 10e2<a+n from K.jV.mp p⟩)) x (λmL=>((39 (wc (g:=1) (b:=1e6) (oc:=4e2) (en:= 0e6) (au:=[]) (apt:=4e2) (S:=[]) (by unfold G4;decide) (λh=>p (hL▸h.2)))))) 13e9 av
  ·have o:(([]:D be).U:K)<s+n:=bN;have hm:=ak3 aw sh 1e2 k (k+1) (32 [8e6,6e5]) i e n s a;rw[j]at hm;have x:=λmL:4e8=>(by
    have x:=WL aw 1e6 (1e7++[(131,.X [8e6,6e5])]) i e n s a
    rw[sF e 1e6 hd]at x
    exact x:_)
   exact je C aq 5e3 C.apx.up h0 47e8 hm (245 ⟨hs.1,r.1,o⟩) x (λmL=>((39 (426 1 4e2 0e6 [] 4e2 [])))) 13e9 av
 ·have P:(!l.jL)=true:=by cases l with|aR=>exact bM apw aq|aQ _ _=>rfl
  have apD:(l.aj bB).U=l.U:=D.fq ..;have j:=sF e 1e2 hd;by_cases q:s+n<=(l.U:K)
  ·have d:=(mO l hs.1 r.1 q).2;have o:s+n<=((l.aj bB).U:K):=bN;by_cases p:a+n<=10e2
   ·have z:=q7 b.aO _ m.1 r.1 p d;have f:70 (365 l):=5e3;have t:81 (365 l) (k+1):=(387 (211 l) (211 l).U z c);have hm:=ak2 aw sh 1e2 k (k+1) (32 [8e6,6e5]) i e n s a l;rw[j]at hm;have x:=λmL:4e8=>(by
     have x:=alR aw 1e6 (1e7++[(131,.X [8e6,6e5])]) i e n s a l
     rw[sF e 1e6 hd]at x
     exact x:_)
    exact fW C apA aq f t 47e8 hm (130 (249 r.1 q) (184 m.1 r.1 p) (N6 c m.1 r.1 p d)) x (232 P (C8 (g:=1) (b:=1e6) (oc:=4e2) (en:= 0e6) (au:=[]) (apt:=4e2) (S:=(l.aj bB)) (by unfold G4;decide) m.1 hs.1 r.1 o (390 p) (N7 c m.1 p)))
     (λmL=>(by refine 246 (l.aj bB)=(211 l).aj bB;rw[zf,N4])) (apq sh _ ns [] C.h3 f t d2)
   ·have hm:=ak1 aw sh 1e2 k (k+1) (32 [8e6,6e5]) i e n s a l;rw[j]at hm;have x:=λmL:4e8=>(by
     have x:=WK aw 1e6 (1e7++[(131,.X [8e6,6e5])]) i e n s a l
     rw[sF e 1e6 hd]at x
     exact x:_)
    exact je C aq 5e3 C.apx.up h0 47e8 hm (24 (249 r.1 q) (kq ⟨m.1,r.1,show 10e2<a+n from K.jV.mp p⟩)) x (232 P (wc (g:=1) (b:=1e6) (oc:=4e2) (en:= 0e6) (au:=[]) (apt:=4e2) (S:=(l.aj bB)) (by unfold G4;decide) (λh=>p (hL▸h.2)))) 13e9 av
  ·have o:(l.U:K)<s+n:=bN;have hm:=ak0 aw sh 1e2 k (k+1) (32 [8e6,6e5]) i e n s a l;rw[j]at hm;have x:=λmL:4e8=>(by
    have x:=WK aw 1e6 (1e7++[(131,.X [8e6,6e5])]) i e n s a l
    rw[sF e 1e6 hd]at x
    exact x:_)
   clear hd;exact je C aq 5e3 C.apx.up h0 47e8 hm (245 ⟨hs.1,r.1,o⟩) x (232 P (426 1 4e2 0e6 [] 4e2 (l.aj bB))) 13e9 av
def am9{i:K}(s:16e0)(C:18 [48e7,6e5])(x:7e4)(e:32e2):48 []:=by
 have hs:70 ((1e2).fI i 0e6):=5e3;have h:81 ((1e2).fI i 0e6) (k+1):=by
  rcases s with H|rfl
  ·exact{C.apx.up with d0:= 2e6}
  ·exact{C.apx.up with d1:= 2e6}
 exact fW C x aq hs h 52e3 (ak6 aw sh 1e2 k (k+1) _ i s) a6 (λmL=>alT aw 1e6 _ i s) 48e4 13e9 (e sh _ ns [] C.h3 hs h d2)
universe e
def ana(m:4e9){a n j:K}(h0:0<=a)(e:0<=j)(x:j<n)(h:a+n<=m.U):dq (m.aj bB) (a+j)=((50 m a (a+n))[j.aJ]?).aj bB:=by
 (show oE (K.N0 h0) λi s=>?_;subst s);(show oE (K.N0 e) λj s=>?_;subst s);rw[(mO m h0 bN h).1];refine(m.aj bB)[i+j]? =_;rw[D.nY];refine _=((((m.fh i).fG n.aJ)[j]?).aj bB);rw[D.NC (by exact K.NG.bn x),D.V9]
def sG{α:Type}{C:8e4->Prop}{n:I}{l:8e4}(h:l.U=n+1)(g:∀x m,m.U=n->C (x::m)):C l:=by
 cases l with
 |aR=>exact nomatch h
 |aQ x m=>exact g x m (I.hG.cF h)
@[elab_as_elim] def N8 {α:Type} {C:D α->Prop} {l:D α} (h:l.U=1) (g:∀s,C [s]):C l:=sG h λx m h=>by cases D.eq_nil_of_length_eq_zero h;exact g x
@[elab_as_elim] def N9 {α:Type} {C:D α->Prop} {l:D α} (h:l.U=2) (g:∀s e,C [s,e]):C l:=sG h λx m h=>N8 (C:=λm=>C (x::m)) h (g x)
@[elab_as_elim] def Oa {α:Type} {C:D α->Prop} {l:D α} (h:l.U=4) (g:∀s a e b,C [s,a,e,b]):C l:=sG h λx m h=>sG (C:=λm=>C (x::m)) h λapp m h=>N9 (C:=λm=>C (x::app::m)) h (g x app)
@[elab_as_elim] def Xc {α:Type} {C:D α->Prop} {l:D α} (h:l.U=8) (g:∀b k e p n r a s,C [b,k,e,p,n,r,a,s]):C l:=sG h λx m h=>sG (C:=λm=>C (x::m)) h λapp m h=>sG (C:=λm=>C (x::app::m)) h λz m h=>sG (C:=λm=>C (x::app::z::m)) h λw m h=>Oa (C:=λm=>C (x::app::z::w::m)) h (g x app z w)
def anb(l:4e9):0<=gk l/\gk l<256^l.U:=by
 induction l with
 |aR=>exact⟨K.eC 0,aq⟩
 |aQ x l ih=>
  have h:=x.C0;rw[D.m6,K.pow_succ];unfold gk;generalize(256:K)^l.U=p at ih;lia
def anc(x:be)(m:K):a9 .f4 25e6 m=true:=by
 exact al.tR.bn (.a4 (eE (show x.aJ<_ from I.yq x.C0 aq)))
def ane(v apB i:K)(P:K)(x:0<=v)(e:0<=apB)(s:0<=P)(h:v % apB/P % 256=v/P % 256):bB (279 (339 ((v % apB).aL P)))= 38 (v.aL P) 256:=by
 rw[y4,N5 _ ⟨K.nh _ aq,K.n9 _ aq⟩,l9 _ aq,K.NI _ s,K.NI _ s,h]
def anf{b:MB}{a n:K}{r:4e9}{vs:0e0}(s:0<=a)(e:0<=n)(h:a+n<=b.aO.U)(hr:r.U=n.aJ)(p:r.aj bB=vs):mv 4e2 a.aJ vs=(204 b.aO r).aj bB:=by
 subst p;have x:(4e2).U=b.aO.U:=D.fq ..;rw[WA _ _ _ (by rw[x];exact WF s h e (by rw[D.fq,hr])),zf,NV _ _ s e (393 x) (by rw[D.fq,hr])]
def Dl{l m:6e1}(s:∀p∈l,p)(h2:∀p∈m,p):∀p∈l++m,p:=λp h=>(300 h) (s p) (h2 p)
def LU.Y(h:LU c n):kd n/\c∈jQ:=by
 rcases h with⟨H,H⟩|⟨H,H⟩|⟨H,H⟩|⟨H,H⟩|⟨H,H⟩|⟨H,H⟩|⟨H,H⟩<;>exact⟨by unfold kd;decide,aq⟩
def ST.Y(h:ST c n):kd n/\c∈jQ:=by
 rcases h with⟨H,H⟩|⟨H,H⟩|⟨H,H⟩|⟨H,H⟩|⟨H,H⟩|⟨H,H⟩|⟨H,H⟩<;>exact⟨by unfold kd;decide,aq⟩
def LS.Y(h:LS c n q):kd n/\c∈jQ/\∃w h m,LW c n q w h m:=by
 rcases h with⟨H,H,H⟩|⟨H,H,H⟩|⟨H,H,H⟩|⟨H,H,H⟩|⟨H,H,H⟩
 ·exact⟨2e6,aq,_,_,_,.a4 ⟨H,H,H,H,H,H⟩⟩
 ·exact⟨2e6,aq,_,_,_,.aE (.a4 ⟨H,H,H,H,H,H⟩)⟩
 ·exact⟨15e6,aq,_,_,_,78 (.a4 ⟨H,H,H,H,H,H⟩)⟩
 ·exact⟨15e6,aq,_,_,_,.aE (78 (.a4 ⟨H,H,H,H,H,H⟩))⟩
 ·exact⟨36e6,aq,_,_,_,230 ⟨H,H,H,H,H,H⟩⟩
def xat(xs:4e9)(i:I):be:=(xs[i]?).ge 0
def Oc{d:I}{n:K}(a:kd n){xs:4e9}(h:xs.U=n.aJ):58 aw (d+1) 447 [.ei xs] 20e4:=by
 rcases a with H|rfl|rfl|rfl
 ·exact N8 h λs=>aku
 ·exact N9 h λs x=>akv
 ·exact Oa h λs x e b=>akw
 ·exact Xc h λs x e b m k p r=>akx
def Xd{n:K}(p:kd n){xs:4e9}(h:xs.U=n.aJ):wd n (xat xs)=20e4:=by
 rcases p with H|rfl|rfl|rfl
 ·show N8 h λs=>?_;refine [((s.aJ:K)*1)].lc=_;simp only[gk,D.Od,D.Oe];exact Eq.bi (K.BQ (↑s.aJ) (256*0))
 ·show N9 h λs x=>?_;refine [((s.aJ:K)*1),(25e6*256)].lc=_;simp only[gk,D.Od,D.Oe];lia
 ·show Oa h λs x e a=>?_;refine [((s.aJ:K)*1),(25e6*256),((e.aJ:K)*65536),((a.aJ:K)*16777216)].lc=_;simp only[gk,D.Od,D.Oe];lia
 ·show Xc h λs x e a m k r b=>?_;refine [((s.aJ:K)*1),(25e6*256),((e.aJ:K)*65536),((a.aJ:K)*16777216),((m.aJ:K)*4294967296),((k.aJ:K)*1099511627776),((r.aJ:K)*281474976710656),((b.aJ:K)*72057594037927936)].lc=_;simp only[gk,D.Od,D.Oe];lia
def Of{n:K}(k:kd n){p:K}(e:0<=p)(h:p+n<=b.aO.U){xs:4e9}(a:50 b.aO p (p+n)=xs):∀q∈y7 n b p (xat xs),q:=by
 intro q s;have m:0<=n:=by unfold kd at k;lia
 unfold y7 at s;rcases 52e6 with H|s
 ·exact fX (368 (K.dv.bn h))
 show aN (D.Lj.mp s) λi x s=>?_;rw[D.CR]at x;simp only[D.eR,D.mn,mo]at s;rcases s with H|rfl
 ·have r:i<xs.U:=by rw[<-a,(mO b.aO e m h).2];exact x
  clear s;rw[ana b.aO e (K.nR i) (by exact K.NG.mp x) h,a,K.tm];unfold xat;rw[D.ic r];rfl
 ·exact anc _ _
def Xe(h:LS c n q):58 aw (d+2) 105 [6e6,0 (8*n),10e7] (m3 x (8*n) q):=by
 rcases h with⟨H,H,H⟩|⟨H,H,H⟩|⟨H,H,H⟩|⟨H,H,H⟩|⟨H,H,H⟩
 ·exact aky
 ·exact akA
 ·exact akz
 ·exact akB
 ·exact akC
def zg{app w h m:K}(h0:0<=app/\app<w)(hm:w<=m):(if h<=app % w then(app % w-w) % m else app % w)=if h<=app then app-w+m else app:=by
 rw[K.Wp h0.1 h0.2];split
 ·rw[<-K.add_emod_right (app-w) m];exact K.Wp bN bN
 ·rfl
def ang{c n q w h m x:K}(b:LW c n q w h m){xs:4e9}(e:xs.U=n.aJ)(a:20e4=x):m3 x (8*n) q=if h<=x then x-w+m else x:=by
 subst a;have s:=anb xs;rw[e]at s;clear e;rcases b with⟨H,H,H,H,H,H⟩|⟨H,H,H,H,H,H⟩|⟨H,H,H,H,H,H⟩|⟨H,H,H,H,H,H⟩|⟨H,H,H,H,H,H⟩
 ·exact zg (w:=256) (h:=128) (m:=4294967296) s aq
 ·exact 417 256 128 s
 ·exact zg (w:=65536) (h:=32768) (m:=4294967296) s aq
 ·exact 417 65536 32768 s
 ·exact 417 4294967296 2147483648 s
def anh(p:K)(e:0<=p)(g:I->V)(r:I):∀(s:I) (apt:0e0),(D.range' s r).iT (λl (i:I)=>D.cN l (p+i).aJ (g i)) apt=mv apt (p.aJ+s) ((D.range' s r).aj g):=by
 induction r with
 |i4=>exact λh h=>rfl
 |hG r x=>
  intro s apt;rw[D.range'_succ,D.MJ,D.nX,x (s+1),show(p+s).aJ=p.aJ+s from K.alt e s];rfl
def Xf(p:K)(g:I->V):∀(r:D I) (apt:0e0),(r.iT (λl (i:I)=>D.cN l (p+i).aJ (g i)) apt).U=apt.U
 | [],apt=>rfl
 |i::r,apt=>by rw[D.MJ,Xf p g r,D.vM]
def ani(s:kd n)(v:K):Builtin.i7 v (Kr n)=v % (256^n.aJ):=by
 rcases s with H|rfl|rfl|rfl
 ·exact y4 v
 ·exact Wq v
 ·exact C2 v
 ·exact y0 v
def bm(x:0<=v)(s:i<n):v % (256^n:K)/(256^i:K) % 256=v/(256^i:K) % 256:=by
 (show oE (K.N0 x) λm e=>?_;subst e);have h:m % 256^n/256^i % 256=m/256^i % 256:=by
  obtain⟨k,H⟩:∃k,n=i+(k+1):=I.exists_eq_add_of_lt s;clear s;rw[I.pow_add,I.mod_mul_right_div_self];exact I.mod_mod_of_dvd _ ⟨256^k,by rw[I.pow_succ,I.R9]⟩
 have h:=bC (I.cast (R:=K)) h;simp only[K.Wi,K.natCast_ediv,K.Wl]at h;exact h
def anj(h:kd n)(s:0<=v)(x:i<n.aJ):bB (279 (pH n v i))= 38 (v.aL (256^i)) 256:=by
 unfold pH;rw[ani h,K.pow_mul,show(2:K)^8=256 from H];exact ane v (256^n.aJ) 0 (256^i) s (K.CZ aq) (K.CZ aq) (bm s x)
def ank{n v p:K}(x:kd n)(e:0<=v){b:MB}(s:0<=p)(h:p+n<=b.aO.U):y8 n b p v n.aJ=(bW b.aO 5e1 (G (p+n)) ((36e5).aj λi=>279 (pH n v i))).aj bB:=by
 have a:0<=n:=by unfold kd at x;lia
 rw[<-anf (b:=b) (vs:=(36e5).aj λi=> 38 (v.aL (256^i)) 256) s a h (by rw[D.fq,D.VF])]
 ·unfold y8;rw[D.range_eq_range',anh p s];rfl
 ·rw[D.rB];exact D.yz λi r=>anj x e (D.CR.mp r)
def anl(v:K)(i:I)(h:i<8):15 v (256^i)=true:=D.ib.mp (show(D.dS 8).dJ (λi=>15 v (256^i))=true by kernel_rfl) i (D.CR.bn h)
def anm(n v:K)(i:I):0<=pH n v i/\pH n v i<256:=by
 unfold pH;rw[y4];exact⟨K.nh _ aq,K.n9 _ aq⟩
section
variable{mL:I->aps}{sh:Sh}{b b0:MB}{k:I}{ns:D (K×V)}
def Xg(h:LU c n\/∃q,LS c n q)(e:kd n)(x:c∈jQ)(p:0<=a+o)(s:¬a+o+n<=10e2)(C:18 [1e5,0e7,12e6])(h0:14e1):48 [0e2]:=by
 have r:0<=n:=by unfold kd at e;lia
 have hm:=m_ldx aw sh 1e2 k (k+1) (32 [1e5,0e7,12e6]) c n a o h;exact 242 (54 x) (λm=>rfl) hm (245 ⟨p,r,53e3⟩) (amf aw 1e6 _ c n a o h) (λmL=>39 (eE (368 53e3)))
def ano(e:LU c n)(f:0<=o)(i:30e3)(C:18 [1e5,0e7,12e6])(j:7e4)(h0:14e1)(l:76 [.x]):48 [v]:=by
 show ij i λa d=>?_;show oA e.Y λs w=>?_;have q:0<=n:=by unfold kd at s;lia
 have r:0<=a+o:=bN;by_cases x:a+o+n<=10e2
 ·have p:=(mO b.aO r q x).2;generalize u:bE b.aO (G (a+o)) (G (a+o+n))=xs at p;have m:ef [.x] [2 20e4]:=⟨19e7,d2⟩;have hm:=m_ld aw sh 1e2 k (k+1) (32 [1e5,0e7,12e6]) c n a o xs e;have h:=λmL:4e8=>(by
   have h:=amg aw 1e6 (1e7++[(131,.X [1e5,0e7,12e6])]) c n a o (xat xs) e
   rw[Xd s p]at h
   exact h:_)
  exact 123 j w m.eQ hm (27 (184 r q x) u (Oc s p) 24e7) h (λmL=>Dl (Of (b:=1e6) s r x u) (39 24e7)) (l sh _ ns _ C.h3 5e3 C.apx.up m)
 ·exact Xg (.a4 e) s w r x C h0
def anp(l:LS c n q)(V:0<=o)(apq:30e3)(C:18 [1e5,0e7,12e6])(R:7e4)(h0:14e1)(S:76 [.x]):48 [v]:=by
 show ij apq λa apA=>?_;(show hT l.Y λr app P=>?_;show nn P λw h m g=>?_;try clear P);have z:0<=n:=by unfold kd at r;lia
 have u:0<=a+o:=bN;by_cases p:a+o+n<=10e2
 ·have i:=(mO b.aO u z p).2;generalize f:bE b.aO (G (a+o)) (G (a+o+n))=xs at i;have e:=ang g i H;have e2:=Xd r i;have j:ef [.x] [2 (m3 20e4 (8*n) q)]:=⟨19e7,d2⟩;have hm:=m_lds aw sh 1e2 k (k+1) (32 [1e5,0e7,12e6]) c n q a o xs l;by_cases t:h<=20e4
  ·rw[eX t]at e;have s:=λmL:4e8=>(by
    have s:=amh aw 1e6 (1e7++[(131,.X [1e5,0e7,12e6])]) c n q w h m a o (xat xs) g
    rw[e2,<-e]at s
    exact s:_)
   exact 123 R app j.eQ hm (ac (184 u z p) (27 f (Oc r i) (Xe l) 24e7)) s (λmL=>Dl (Of (b:=1e6) r u p f) (24 (eE t) 24e7)) (S sh _ ns _ C.h3 5e3 C.apx.up j)
  ·rw[d6 t]at e;rw[e]at j hm;have s:=λmL:4e8=>(by
    have s:=ami aw 1e6 (1e7++[(131,.X [1e5,0e7,12e6])]) c n q w h m a o (xat xs) g
    rw[e2]at s
    exact s:_)
   exact 123 R app j.eQ hm (ac (184 u z p) (72 f (Oc r i) (ac (by have h:=Xe (d:=32) (x:=20e4) l;rw[e]at h;exact h) (39 24e7)))) s (λmL=>Dl (Of (b:=1e6) r u p f) (24 (fX t) 24e7)) (S sh _ ns _ C.h3 5e3 C.apx.up j)
 ·exact Xg (.aE ⟨q,l⟩) r app u p C h0
def anq{l:I}{n:K}(h:l=16\/l=32)(s:n<=8):l+n.aJ<=16777216:=
 I.dW (I.BF (by rcases h with e|e<;>rw[e]<;>decide:l<=32) (K.qx.bn s:n.aJ<=8)) aq
def anr{c n o x:K}{v:V}(w:ST c n)(apD:0<=o)(P:30e3)(W:0<=x)(C:18 [1e5,0e7,12e6])(S:7e4)(h0:14e1)(R:32e2):48 [6e6,v]:=by
 show ij P λa apE=>?_;show oA w.Y λg f=>?_;have m:0<=n/\n<=8:=by unfold kd at g;lia
 have e:0<=a+o:=bN;have d:=C.apx.aO;by_cases h:a+o+n<=10e2
 ·generalize hr:((D.dS n.aJ).aj λi=>be.cg (pH n x i).aJ)=r;have apq:r.U=n.aJ:=by rw[<-hr,D.fq,D.VF]
  have apA:=q7 b.aO r e m.1 h apq;have t:70 {aG b with aO:=bW b.aO (G (a+o)) (G (a+o+n)) r}:=5e3;have app:81 {aG b with aO:=bW b.aO (G (a+o)) (G (a+o+n)) r} (k+1):=(387 (bW b.aO (G (a+o)) (G (a+o+n)) r) (bW b.aO (G (a+o)) (G (a+o+n)) r).U apA d);have hm:=m_st aw sh C.h3 1e2 k (k+1) (32 [1e5,0e7,12e6]) c n a x o w;rw[hr]at hm;exact amu C S f t app (λu=>rfl) hm (ac (184 e m.1 h) (Dl (λp s=>by
   (show aN (D.sr.mp s) λi u q=>?_;subst q)
   refine bK ((0:K)<=8*(i:K))=true
   exact eE (K.Wk aq (K.nR i))) (ac (by
    rw[D.ib]
    intro j z
    (show aN (D.sr.mp z) λi u q=>?_;subst q)
    clear z
    have:=anm n x i
    simp only[al.lb,mW];exact bb) (39 (anq d m.2))))) (λmL=>amk aw 1e6 _ c n a x o w) (λmL=>ac (fX (368 (K.dv.bn h))) λp s=>by
    show aN (D.Lj.mp s) λi l s=>?_
    rw[D.CR]at l
    simp only[D.eR,D.mn,mo]at s
    have apw:i<8:=I.mF l (K.qx.bn m.2)
    rcases s with H|rfl|rfl
    ·exact anl _ i apw
    ·rfl
    ·show eE ⟨K.Wn e (K.nR i),?_⟩
     clear s
     unfold y8
     rw[Xf,D.fq]
     exact K.mF (K.add_lt_add_left (K.NG.mp l) _) h) (λmL=>by rw[<-hr];exact ank (b:=1e6) g W e h) (R sh _ ns [] C.h3 t app d2)
 ·have hm:=m_stx aw sh 1e2 k (k+1) (32 [1e5,0e7,12e6]) c n a x o w;exact 242 (54 f) (λu=>rfl) hm (245 ⟨e,m.1,K.jV.mp h⟩) (amj aw 1e6 _ c n a x o w) (λmL=>39 (eE (368 (K.jV.mp h))))
universe e
def Xh(h:15e0):hh (y6 sh):=by
 rcases h with H|rfl|rfl
 ·exact 15e6
 ·exact 15e6
 ·exact 78 H
def fm(b:MB)(f:K)(v:V):MB:={aG b with no:=b.no++[.X [0 f,6 [v]]],nl:=b.nl++[.X [0 f,8 [v]]]}
def c8.fm{k:I}{ns:33e1}(apx:20e7){f:K}{v:V}(s:KV .x v):c8 (fP sh (Internal.fm b f v) [v]) (k+1) (ns++[(f,v)]):=by
 have x:c8 (Internal.fm b f v) (k+1) (ns++[(f,v)]):={apx.up with
  no:=by refine b.no++_=_;rw[apx.no,D.sA];rfl
  nl:=by refine b.nl++_=_;rw[apx.nl,D.sA];rfl
  ns:=⟨λp r=>by
   rcases D.lI.mp r with h|h
   ·exact apx.ns.1 p h
   ·rw[D.cZ]at h;subst h;exact s,by rw[D.hM];exact I.TR apx.ns.2 1⟩}
 cases sh with
 |a=>exact{x with g:=λw e=>by cases(D.cZ.mp (show w∈ [v]from e));exact s}
 |b m E=>exact x
def bu.fm(b:MB)(f:K)(v:V):70 (Internal.fm b f v):=5e3
def bu.fP(h:34e8)(sh:Sh)(F:0e0):70 (fP sh b' F):=by cases sh<;>exact h
section
variable{mL:I->aps}{sh:Sh}{b b0:MB}{k:I}{ns:D (K×V)}{ts:D apv}{aD:D V}
def Xi:vo sh (fm b f v) k1 s0 s d=vo sh {aG b with no:=(1e2).no++[.X [0 f,6 [v]]]} k1 s0 s d:=by cases sh<;>rfl
def Xj:85 (182 (fm b f v)) 4e2 s=ad {aG (14e0)with nl:=(1e6).nl++[.X [0 f,8 [v]]]} 0e6 s:=H
def c8.Og(apx:20e7):b.no.U=ns.U/\b.nl.U=ns.U:=by rw[apx.no,apx.nl,D.fq,D.fq];exact 15e2
def ans{f:K}(h:f=1\/f=2\/f=3\/f=4){v:V}(e:KV q v)(C:18 [4e0,0 f])(a:7e4)(r:32e2):48 [v]:=by
 have h1:=C.apx.Og;have h2:=C.apx.ns.2;have h3:=C.apx.B.2;have hm:=m_host aw sh C.h3 1e2 k (k+1) (32 [4e0,0 f]) f h v;rw[<-Xi]at hm;have s:=λmL:4e8=>(by
  have s:=ame aw 1e6 (1e7++[(131,.X [4e0,0 f])]) f h v
  rw[<-Xj]at s
  exact s:_)
 have x:c8 (fP sh (fm b f v) [v]) (k+1) (ns++[(f,v)]):=C.apx.fm e.x;exact WZ C a aq (bu.fm b f v) x (λp=>rfl) hm (27 bN bN (363 b.no.U) bN) s (λmL=>39 (363 b.nl.U)) 13e9 (r (y6 sh) _ _ [] (Xh C.h3) ((bu.fm b f v).fP sh [v]) x d2)
universe e
def Dm(b:MB)(h:b.apr=v):({b with apr:=v}:MB)=b:=by rw[<-h]
def Xk(b:MB)(apw:K)(h:b.apr=v):({b with apr:=v,pk:=apw}:MB)={b with pk:=apw}:=by rw[<-h]
def Xl(x:K):361 x=true:=H
def ant(h:b.apr=3)(T:0e1)(fa s:K):263 aw b [4e0,3e8] [0e8,13e3] []=46 {b with gv:=(b.gv+4)} [362 (s+b.e9)] [361 (s+b.e9)=true,1<=16777216]:=by
 rw[h];exact al7 aw b T fa s
def anu(h:b.apr=1)(T:0e1)(fa s:K):263 aw b [4e0,3e8] [0e8,13e3] []=c6 0e6 (ad b (.X [25e3,14e5]) [0e8,13e3]) T []:=by
 rw[h];exact al8 aw b T fa s
def q8(sh:Sh)(b:MB)(cO:0e0):MB:={fP sh (394 (1e2).pk) cO with gv:=(1e2).gv+4}
def bu.q8:70 (Internal.q8 sh b cO):=by cases sh<;>exact⟨H,H,H,H⟩
def c8.q8{k:I}{ns:33e1}(apx:20e7){cO:0e0}(s:eJ .x cO):81 (Internal.q8 sh b cO) (k+1):=by
 have h:=apx.up;cases sh with
 |a=>exact⟨h.aO,h.T0,h.T1,h.T2,h.c0,h.c1,h.c2,h.e0,h.e1,h.d0,h.d1,h.no,h.nl,h.ns,h.e9,h.apr,s,h.B⟩
 |b x E=>exact⟨h.aO,h.T0,h.T1,h.T2,h.c0,h.c1,h.c2,h.e0,h.e1,h.d0,h.d1,h.no,h.nl,h.ns,h.e9,h.apr,h.g,h.B⟩
def c8.anv{k:I}{ns:33e1}(apx:20e7)(hm:kr 62 b.m){cO:0e0}(h:eJ .x cO):l5 (fP sh (394 (1e2).pk) cO):=by
 cases sh with
 |a=>
  have s:81 {aG b with pk:=jo (1e2).pk 2,g:=cO} (k+1):={apx.up with g:=h};exact s.we hm
 |b x E=>
  have s:81 (394 (1e2).pk) (k+1):={apx.up with};exact s.we hm
def anw{mL:4e8}:ad (182 (q8 sh b cO)) 0e6 s=ad {aG (14e0)with gv:=(1e6).gv+4} 0e6 s:=by cases sh<;>rfl
section
variable{mL:I->aps}{sh:Sh}{b b0:MB}{k:I}{ns:D (K×V)}{c:K}{r au cO:D V}{fa fb:K}{o:D cq}{o2:(I->aps)->D cq}{ca:D Prop}{nk:(I->aps)->D Prop}
def Xm(n:w= 2 (325 fb b.e9))(C:18 (1e5::r))(v:7e4)(q:c∈jQ)(m:eJ .x cO)
  (dj:302 (k+1) (1e5::r) au (1e5::r) o=ea (pI sh (394 (1e2).pk) (k+1) cO fa fb true) (32 (1e5::r)) ca) (ho:13e1)
  (l7:∀mL,288 1e6 (1e5::r) au (1e7++[(131,.X (1e5::r))]) (o2 mL)=150 0e6 {aG (14e0)with gv:=(1e6).gv+4} [w] (1e7++[(131,.X (1e5::r))]) (nk mL)) (l8:46e8)
  (IH:76 [.j2]):32e1:=by
 subst n;have s:ef [.j2] [2 (325 fb b.e9)]:=⟨⟨_,H,K.nh _ aq,K.n9 _ aq⟩,d2⟩;have hs:70 (q8 sh b cO):= .q8;have x:=C.apx.q8 (sh:=sh) m;have h3:hh (.b hb jq):= 78 H;show zb (c:=5) hs (λapu h=>?_) (λmL hL bI h=>?_) (IH (.b hb jq) _ ns _ h3 hs x s)
 ·have:=aml C.h3 (C.apx.anv C.hm m) dj ho C.at (zc (show 70 (394 (1e2).pk)from⟨H,H,H,H⟩) v) h;have e:(210 (dn+1+4))=λdn=>apu (dn+5):=y5 λdn=>by rw[K.Wo];rfl
  exact e▸bb
 ·have a:=l7 mL;rw[<-anw (sh:=sh) (cO:=cO)]at a;exact Da (b:=14e0) (b':=182 (q8 sh b cO)) (x.oh hL) C.apx.B.1 hs.2.1 hs.2.2.2 q C.hr H (s.eQ) a (l8 mL) h
def Xn(C:18 (1e5::r))(a:c=16\/c=17)(h0:14e1)(h:21 cB cB)
  (dj:fT (302 (k+1) (1e5::r) au (1e5::r) o)=gw (275 (k+1) []).U (138 1e2 (k+1) anx 63 [(58,14e5)]) ca) (ho:13e1)
  (l7:∀mL,288 1e6 (1e5::r) au (1e7++[(131,.X (1e5::r))]) (o2 mL)=c6 0e6 (ad 1e6 (.X [25e3,14e5]) cB) (1e7++[(131,.X (1e5::r))]) (nk mL)) (l8:46e8):32e1:=by
 have x:81 1e2 (k+1):=C.apx.up;have cR:∀mL,kr 51 mL->LC 14e0 k au (.Y (306 [25e3,14e5]) (dc 49e8 4e2 (.X [25e3,14e5]) cB) 1e7):=λmL hL=>by
  have hd:=y9 (b:=14e0) (b':=49e8) (x.oh hL) C.apx.B.1 C.hr (og b.aO) 28e3 h 28e3 (l7 mL) (l8 mL);exact Db (b:=14e0) (b':=49e8) (w:= .X [25e3,14e5]) (x.oh hL) C.apx.B.1 C.hr (og b.aO) (en:= .X [25e3,14e5]) 28e3 h (adj aw 14e0 49e8 4e2 au cB r c a) (39 hd)
 show⟨_,_,.X [25e3,14e5],cB,1e2,k+1,ns,Wy C.h3 dj H ho C.at,cR,78 ⟨H,sh,k+1,anx,C.h3,?_⟩,x,?_⟩
 ·have e:(275 (k+1) []).U=(275 49e1 []).U:=by
   clear dj;rcases C.h3 with H|rfl|rfl<;>rfl
  clear C;rw[e]
 ·exact⟨h0.1.bi,h0.2.1.bi,h0.2.2.1.bi,h0.2.2.2.bi,λs=>rfl,h⟩
universe e
section
variable{mL:I->aps}{sh:Sh}{b b0:MB}{k:I}{ns:D (K×V)}
def KV.Xo(e:KV .j2 v)(a:128 w):eJ .x [v,w]:=λx s=>by
 rcases 52e6 with H|h
 ·exact e.x
 ·rw[D.cZ]at h;subst h;exact a.x
def any(x:KV .j2 v)(e:128 w)(C:18 [4e0,3e8])(r:7e4)(h0:14e1)(m:76 [.j2]):48 [v,w]:=by
 have p:=x.Xo e;(show aN x λfb a q=>?_;try clear x;subst a);(show aN e λfa a n=>?_;try clear e;subst a);rcases C.apx.apr with h|h
 ·have hm:=m_far1 aw sh C.h3 1e2 k (k+1) (32 [4e0,3e8]) fa fb;have s:=λmL:4e8=>anu (b:=1e6) h (1e7++[(131,.X [4e0,3e8])]) fa fb;rw[Dm 1e2 h]at hm;exact Xn C 2e6 h0 (λu=>rfl) hm a6 s 48e4
 ·have hm:=m_far3 aw sh C.h3 1e2 k (k+1) (32 [4e0,3e8]) fa fb;rw[Dm 1e2 h,Xk 1e2 _ h]at hm;have s:=λmL:4e8=>(by
   have s:=ant (b:=1e6) h (1e7++[(131,.X [4e0,3e8])]) fa fb
   rw[l9 _ aq]at s
   exact s:_)
  exact Xm H C r aq p hm 40e9 s (232 (Xl _) bN) m
universe e
section
variable{mL:I->aps}{sh:Sh}{b b0:MB}{k:I}{ns:D (K×V)}
def anz(C:18 [21e2])(u:k+1=b.B.U)(h0:14e1):48 []:=by
 (show nn (alq (m_fin aw sh 1e2 k (k+1) (32 [21e2]) []) a6 C.at (amt 5e3 u)) λS q i p=>?_;show aN p λaD s n=>?_;try clear p);have m:81 1e2 (k+1):=C.apx.up;have v:∀mL,kr 51 mL->LC 14e0 k [] (.Y (306 [28e9,5e7]) (85 49e8 4e2 []) 1e7):=λmL hL=>Db (b:=14e0) (b':=49e8) (w:= .X [28e9,5e7]) (m.oh hL) C.apx.B.1 C.hr (og b.aO) (en:= 0e6) (b7:=[]) 52e2 52e2 (adl aw 14e0) a6;show⟨_,.X [28e9,5e7],0e6,[],1e2,k+1,ns,n,v,.a4 ⟨H,S,q,_,[],i,aD,1,H,?_⟩,m,⟨h0.1.bi,h0.2.1.bi,h0.2.2.1.bi,h0.2.2.2.bi,λr=>rfl,λr=>rfl⟩⟩;clear n;rcases C.h3 with H|rfl|rfl
 ·(show lG s λh a x e=>?_;try clear s;subst h;clear a;subst x;subst e);clear C;exact .a4 ⟨H,H,H⟩
 ·(show lG s λh a x e=>?_;try clear s;subst h;clear a;clear x;subst e);exact .aE ⟨H,_,_,2e6,2e6,H⟩
 ·(show lG s λh a x e=>?_;try clear s;subst h;clear a;clear x;subst e);exact .aE ⟨H,_,_,2e6,21e5,H⟩
universe e
def Xp{F:MS}:kT F (5 1213):=17e5
section
variable{mL:I->aps}{sh:Sh}{b b0:MB}{k:I}{ns:D (K×V)}
def Oh{ca:6e1}(dj:fT (vq aw sh b k1 bx au T o)=gw i O ca)(s:13e1):aw 35 (271 [7e9,3e7,bx]) (100 b au) T (.a8 i O gQ):=NF dj s Xp
def Dn{ca:6e1}(dj:vq aw sh b k1 bx au T o=QG v O gQ ca)(s:13e1):122 35 (271 [7e9,3e7,bx]) (100 b au) T v O gQ:=iY dj s Xp
def six(h:0<=app/\app<6):Y6 app:=by unfold Y6;lia
def c8.tb2(apx:20e7)(s:19e3):eJ .rf 10e3:=by
 rcases s with H|rfl
 ·exact apx.T0.1
 ·exact apx.T2.1
def anA(s:Q3 q)(h:app=0\/app=1\/app=2\/app=3\/app=4\/app=5)(x:31e4=q):app=0\/app=2\/app=3:=by
 subst x;rcases h with H|rfl|rfl|rfl|rfl|rfl
 ·exact 2e6
 ·exact 55e8
 ·exact 15e6
 ·exact 78 H
 ·exact 55e8
 ·exact 55e8
def Oi{c q t a:K}{F:0e0}(e:vm c)(u:Q3 q)(s:19e3)(j:0<=a)(w:21 F F)(C:18 [1e5,10e7,1e1])(h0:14e1)
  (hx:∀z,∃o ca,fT (302 (k+1) [1e5,10e7,1e1] (0e2::F) [1e5,10e7,1e1] o)=gw (275 (k+1) []).U (138 1e2 (k+1) F 51 [(58,7e8)]) ca/\
   ((∀gQ,aw 35 (271 [7e9,3e7,.X [1e5,10e7,1e1]]) (275 (k+1) (0e2::F)) gQ (205 (275 (k+1) []).U 1e2 (k+1) F 51 [(58,7e8)] gQ))->∀p∈ca,p))
  (hr:∀app,(app=0\/app=2\/app=3)->q=31e4->bK (5e2<=a)=false->16e4=34e1->48 (0e2::F)):48 (0e2::F):=by
 have i:c∈19::jQ:=by clear hx C;rcases e with H|rfl<;>decide
 by_cases n:5e2<=a
 ·have hd:=eE n;show gd (hx xh) λo ca hm x=>?_;exact 242 i w hm (x λgQ=>Oh (m_adu aw sh C.h3 1e2 (k+1) _ c q a t s F) (39 hd)) (al9 aw 1e6 _ c q a t e s F) (λmL=>39 hd)
 have hd:bK (5e2<=a)=false:=fX n;show aN (W9 (C.apx.tb2 s) j (by exact K.wk n)) λapp h v=>?_;rcases v with H|⟨app,H,v⟩
 ·show gd (hx xi) λo ca hm x=>?_;exact 242 i w hm (x λgQ=>Oh (m_adn aw sh C.h3 1e2 (k+1) _ c q a t s F) (24 hd h)) (ama aw 1e6 _ c q a t e s F) (λmL=>24 hd h)
 have m:=six v;by_cases r:31e4=q
 ·exact hr app (anA u m r) r.bi hd h
 ·show gd (hx xj) λo ca hm x=>?_;exact 242 i w hm (x λgQ=>Oh (m_adw aw sh C.h3 1e2 (k+1) _ c q a t app u s m r F) (130 hd h h)) (amb aw 1e6 _ c q a t app e u s m r F) (λmL=>130 hd h h)
def o4{p q r s:Prop}(e:p)(h2:q)(h3:r)(h:s):∀x∈ [p,q,r,s],x:=27 e h2 h3 h
def sim_ind{q t:K}{u v:V}(r:q=1\/q=2)(p:19e3)(l:128 u)(m:KV kv v)(C:18 [4e1,10e7,1e1])(o:7e4)(h0:14e1)(c:32e2):48 [u,v]:=by
 show ij l λa j=>?_;have n1:=C.apx.Og;have d:=C.apx.ns.2;have P:=C.apx.B.2;show Oi 2e6 (r.ak .a4 λh=> .aE 25e7) p j.1 (λf=>bC (λv=>[v]) (m.eQ f)) C h0 (λz=>⟨_,_,m_inx aw sh 1e2 k (k+1) _ q t a v z,λh=>39 (h _)⟩) λapp n e hd s=>?_;have i:app=0\/app=2:=by
  rcases n with H|rfl|rfl
  ·exact 2e6
  ·exact 21e5
  ·rcases r with H|rfl<;>cases e
 clear r;subst e;have hm:=m_ink aw sh C.h3 1e2 k (k+1) (32 [4e1,49e5,1e1]) 31e4 t a app i v;rw[<-Xi]at hm;have x:=λmL:4e8=>(by
  have x:=WP aw 1e6 (1e7++[(131,.X [4e1,49e5,1e1])]) 17 a t app 2e6 p i v
  rw[<-Xj]at x
  exact x:_)
 have w:c8 (fP sh (fm b 31e4 v) [v]) (k+1) (ns++[(31e4,v)]):=C.apx.fm m.x;exact WZ C o aq (bu.fm b 31e4 v) w 45e4 hm (ac (Dn (NM aw sh C.h3 1e2 (k+1) _ 17 a t app p n [v]) (o4 hd s s s)) (o4 24e7 24e7 (363 b.no.U) (by exact I.nC 16777216))) x (λmL=>ac hd (o4 s s s (363 b.nl.U))) 13e9 (c (y6 sh) _ _ [] (Xh C.h3) ((bu.fm b 31e4 v).fP sh [v]) w d2)
def anB{t:K}{u v w:V}(q:19e3)(i:128 u)(m:KV .j2 v)(n:128 w)(C:18 [4e1,3e8,1e1])(o:7e4)(h0:14e1)(l:76 [.j2]):48 [u,v,w]:=by
 (show aN i λa p g=>?_;try clear i;subst p);have apA:=C.apx.ns.2;have R:=C.apx.B.2;show Oi 2e6 (78 H) q g.1 (λf=>by refine [71 _,71 _]=_;rw[m.eQ f,n.eQ f]) C h0 (λz=>⟨_,_,m_inx2 aw sh 1e2 k (k+1) _ 5 t a v w z,λh=>39 (h _)⟩) λapp P e hd s=>?_;have c:app=3:=by
  rcases P with H|rfl|rfl
  ·cases e
  ·cases e
  ·rfl
 subst c;have d:=m.Xo n;(show aN m λfb p S=>?_;try clear m;subst p);(show aN n λfa p apq=>?_;try clear n;subst p);have j:=NM aw sh C.h3 1e2 (k+1) [(164,7e9),(207,3e7),(43,.X [4e1,3e8,1e1]),(6,4e1)] 17 a t 3 q (78 H) [2 fb,13e3];rcases C.apx.apr with x|x
 ·have hm:=m_inf1 aw sh C.h3 1e2 k (k+1) (32 [4e1,3e8,1e1]) t a fa fb;have r:=λmL:4e8=>amd aw 1e6 (1e7++[(131,.X [4e1,3e8,1e1])]) a fa fb t q x;rw[Dm 1e2 x]at hm;exact Xn C 21e5 h0 (λW=>rfl) hm (39 (Dn j (o4 hd s s s))) r (λmL=>o4 hd s s s)
 ·have hm:=m_inf3 aw sh C.h3 1e2 k (k+1) (32 [4e1,3e8,1e1]) t a fa fb;have r:=λmL:4e8=>(by
   have r:=amc aw 1e6 (1e7++[(131,.X [4e1,3e8,1e1])]) a fa fb t q x
   rw[l9 _ aq]at r
   exact r:_)
  rw[Dm 1e2 x,Xk 1e2 _ x]at hm;exact Xm H C o aq d hm (24 (Dn j (o4 hd s s s)) 24e7) r (λmL=>72 hd s (o4 s s (Xl _) 24e7)) l
universe e
section
variable{mL:I->aps}{sh:Sh}{b b0:MB}{k:I}{ns:D (K×V)}
def anC:xI sh (fm b f v) k1 s0=xI sh {aG b with no:=(1e2).no++[.X [0 f,6 [v]]]} k1 s0:=by cases sh<;>rfl
def anD{o2:4e8->2e1}{ca:6e1}{a:4e8->6e1}(x:KV .x v)(C:18 (8e3::r))(h0:14e1)
  (dj:302 (k+1) (8e3::r) au (8e3::r) o=ea (xI sh (fm b 1 v) (k+1) [v]) (32 (8e3::r)) ca) (ho:13e1)
  (l7:∀mL,288 1e6 (8e3::r) au (1e7++[(131,.X (8e3::r))]) (o2 mL)=201 (182 (fm b 1 v)) 4e2 [] (1e7++[(131,.X (8e3::r))]) (a mL)) (l8:∀mL,∀p∈a mL,p):32e1:=by
 have e:c8 (fP sh (fm b 1 v) [v]) (k+1) (ns++[(1,v)]):=C.apx.fm x;have q:c8 (fP (.b [] []) (fm b 1 v) [v]) (k+1) (ns++[(1,v)]):=C.apx.fm x;have hs:70 (fP sh (fm b 1 v) [v]):=(bu.fm b 1 v).fP sh [v];show gd (alr C.h3 (e.we (hs.1▸C.hm)) dj ho C.at) λu aD i j=>?_;clear dj;have cR:∀mL,kr 51 mL->LC 14e0 k au (.Y (306 [28e9,5e7]) (85 (182 (fP sh (fm b 1 v) [v])) ((fP sh (fm b 1 v) [v]).aO.aj bB) []) 1e7):=λmL hL=>by
  have m:oa (182 (fm b 1 v)):=q.oh hL;have hd:=y9 (b:=14e0) (b':=182 (fm b 1 v)) m C.apx.B.1 C.hr (og b.aO) 28e3 28e3 28e3 (l7 mL) (l8 mL);have n:=Db (b:=14e0) (b':=182 (fm b 1 v)) (w:= .X [28e9,5e7]) m C.apx.B.1 C.hr (og b.aO) (en:= 0e6) (b7:=[]) 28e3 28e3 (adk aw 14e0 (182 (fm b 1 v)) 4e2 au r) (39 hd);clear C;cases sh<;>exact n
 show⟨_,.X [28e9,5e7],0e6,[],fP sh (fm b 1 v) [v],k+1,ns++[(1,v)],j,cR,.a4 ⟨H,62,u,_,[6e0],_,_,1,H,.aE ⟨H,20e1,aD,21e5,?_,H⟩⟩,e,?_⟩
 ·rcases i with⟨_,h⟩|⟨_,h⟩
  ·exact 25e7
  ·exact .aE h
 ·exact⟨hs.1.aV h0.1.bi,hs.2.1.aV h0.2.1.bi,hs.2.2.1.aV h0.2.2.1.bi,hs.2.2.2.aV h0.2.2.2.bi,λs=>rfl,λs=>rfl⟩
def anE(r:19e3)(n:128 u)(p:30e3)(C:18 [8e3,1e3,1e1])(h0:14e1):48 [u,v]:=by
 show ij n λa m=>?_;have n1:=C.apx.Og;have j:=C.apx.ns.2;have l:=C.apx.B.2;have i:=(117 C.hr);show Oi 21e5 2e6 r m.1 (λf=>bC (λv=>[v]) (p.eQ f)) C h0 (λz=>⟨_,_,m_tlx aw sh 1e2 k (k+1) _ 1 t a v z,λh=>39 (h _)⟩) λapp w e hd s=>?_;have q:app=2:=by
  rcases w with H|rfl|rfl
  ·cases e
  ·rfl
  ·cases e
 subst q;have hm:=m_tlk aw sh C.h3 1e2 k (k+1) (32 [8e3,1e3,1e1]) t a v;rw[<-anC]at hm;have x:=λmL:4e8=>(by
  have x:=WP aw 1e6 (1e7++[(131,.X [8e3,1e3,1e1])]) 19 a t 2 21e5 r 21e5 v
  exact x:_)
 exact anD p.x C h0 hm (126 (Dn (NM aw sh C.h3 1e2 (k+1) _ 19 a t 2 r 15e6 [v]) (o4 hd s s s)) bN bN bN (o4 bN bN (363 b.no.U) bN)) x (λmL=>ac hd (o4 s s s (363 b.nl.U)))
universe e
def Do(r:V):Prop:=∃c aD,r=V.X (1e5::aD)/\c∈jQ
def d4(bx:V)(ts s:D apv):Prop:=Do bx/\∀{mL:4e8} {sh:Sh} {b b0:MB} {k:I} {ns:33e1} {au:0e0},Cx mL sh b k ns bx->k+1<b.B.U->14e1->ef ts au->76 s->32e1
def qd(B:0e0)(ts:D apv):Prop:=∀{mL:4e8} {sh:Sh} {b b0:MB} {k:I} {ns:33e1} {au:0e0},20e7->kr 62 b.m->kr 51 mL->15e0->b.B.fh k=B->14e1->ef ts au->32e1
def ma(d5:0e0):Prop:=(∀r∈d5,Do r)/\∀B,B≠ []->qd B []->qd (d5++B) []
def Oj{l B:0e0}{r:V}{k:I}(h:l.fh k=r::B):l[k]? =G r/\l.fh (k+1)=B/\(B≠ []->k+1<l.U)/\(B=[]->k+1=l.U):=by
 have h1:(l.fh k)[0]? =G r:=by rw[h];rfl
 rw[D.V9]at h1;have h2:l.fh (k+1)=B:=by rw[<-D.ZH,h];rfl
 have h3:(l.fh k).U=B.U+1:=by rw[h];rfl
 rw[D.sf]at h3;have x:l.U=B.U+1+k:=(I.sub_eq_iff_eq_add (I.jx (I.lt_of_sub_ne_zero (h3▸I.Si _)))).mp h3;show⟨h1,h2,λs=>?_,λs=>?_⟩
 ·rw[x,I.BQ k];exact I.aes (I.succ_lt_succ (I.pos_of_ne_zero λe=>s (D.J8.mp e))) k
 ·rw[x,s,I.BQ k];rfl
def fY(s:c∈jQ)(h:∀{mL:4e8} {sh:Sh} {b b0:MB} {k:I} {ns:33e1} {au:0e0},18 (1e5::r)->k+1<b.B.U->14e1->ef ts au->76 ts'->32e1):109 (1e5::r) ts ts':=⟨⟨c,r,H,s⟩,h⟩
def kW{bx:V}{B:0e0}{ts s:D apv}(a:B≠ [])(hr:d4 bx ts s)(ih:qd B s):qd (bx::B) ts:=by
 intro mL sh b b0 k ns au apx hm hL h3 hd h0 r;(show lG (Oj hd) λe1 e2 e3 h=>?_;clear h);exact hr.2 ⟨apx,hm,hL,h3,e1⟩ (e3 a) h0 r λm b' lf b7 x hs e p=>ih e (hs.1▸hm) hL x (by rw[hs.2.1];exact e2) ⟨h0.1.aV hs.1.bi,h0.2.1.aV hs.2.1.bi,h0.2.2.1.aV hs.2.2.1.bi,h0.2.2.2.aV hs.2.2.2.bi⟩ p
def ef.aR(h:ef [] s):s=[]:=by cases s with
 |aR=>rfl
 |aQ a l=>exact h.ak
def ef.ej(h:ef [q] s):∃v,s=[v]/\KV q v:=by cases s with
 |aR=>exact h.ak
 |aQ a l=>(show oA h λh1 h2=>?_;try clear h);cases h2.aR;exact⟨a,H,h1⟩
def ef.j1(h:ef [q,r] s):∃v w,s=[v,w]/\KV q v/\KV r w:=by cases s with
 |aR=>exact h.ak
 |aQ a l=>(show oA h λh1 h2=>?_;try clear h);(show aN h2.ej λw x e=>?_;subst x);exact⟨a,w,H,h1,e⟩
def ef.kV(h:ef [q,r,p] s):∃v w x,s=[v,w,x]/\KV q v/\KV r w/\KV p x:=by cases s with
 |aR=>exact h.ak
 |aQ a l=>(show oA h λh1 h2=>?_;try clear h);(show gd h2.j1 λw x e b=>?_;subst e);exact⟨a,w,x,H,h1,b⟩
def KV.rxx(h:KV .rf v):KV .rx v:=by
 rcases h with H|⟨n,H,_⟩
 ·exact 2e6
 ·exact .aE ⟨n,H⟩
section
variable{ts:D apv}{n o:K}{q:apv}
def Dp(h:ts.U<=5):109 [5e8,0e3] ts (.cA::ts):=fY aq λC s h0 x e=>amx C s x h e
def anF(x:0<=n/\n<256)(h:ts.U<=5):109 [5e8,0e3] ts (.s8::ts):=fY aq λC s h0 e a=>amy x C s e h a
def q9(h:ts.U<=5):109 [21e4,0e3] ts (.j2::ts):=fY aq λC s h0 x e=>amz C s x h e
def Xq(s:q= .rf\/q= .rx)(h:ts.U<=5):109 [0 208,0e3] ts (q::ts):=fY aq λC a h0 e x=>amA s C a e h x
def anG(x:0<=n/\n<6)(h:ts.U<=5):109 [0 210,0e3] ts (.rf::ts):=fY aq λC s h0 e a=>amC x C s e h a
def anH(h:ts.U<=5):109 [29e0,0e7] ts (.rx::ts):=fY aq λC s h0 x e=>amD C s x h e
def anI(e:q= .rf\/q= .rx):109 [43e3] [q] [.x]:=fY aq λC a h0 h b=>by
 (show aN h.ej λv x s=>?_;subst x);clear h;show amE (ts:=[]) ?_ C a d2 aq b;rcases e with H|rfl
 ·exact s.rxx
 ·exact s
def anJ:109 [16e3,0e7] [] [.x]:=fY aq λC s h0 h x=>amF C s h aq x
def anK:158 [21e3,0e7] [.cA]:=fY aq λC x h0 e a=>by(show aN e.ej λv h s=>?_;subst h);exact amI (ts:=[]) s C x d2 a
def anL:109 [16e3,1e3] [] [.x]:=fY aq λC s h0 h x=>amG C s h aq x
def anM:158 [21e3,1e3] [.j2]:=fY aq λC x h0 e a=>by(show aN e.ej λv h s=>?_;subst h);exact amJ (ts:=[]) s C x d2 a
def anN:109 [16e3,1e8] [] [.x]:=fY aq λC s h0 h x=>amH C s h aq x
def anO:158 [21e3,1e8] [.rf]:=fY aq λC x h0 e a=>by(show aN e.ej λv h s=>?_;subst h);exact amK (ts:=[]) s C x d2 a
def Xr(e:7e3):109 [38e2,1e1] [.cA] [22e4]:=fY aq λC x h0 hs a=>by(show aN hs.ej λv h s=>?_;subst h);exact amP e s C x h0 a
def anP(a:7e3):158 [0 38,1e1] [22e4,.cA]:=fY aq λC e h0 hs b=>by(show jz hs.j1 λv w s h x=>?_;subst s);exact amR a h x C e h0 b
def anQ(h:7e3):109 [48e8,1e1] [] [.x]:=fY aq λC s h0 hs x=>by cases hs.aR;exact amS h C s x
def anR(a:7e3):109 [39e3,1e1] [.cA,22e4] [.x]:=fY aq λC e h0 hs b=>by(show jz hs.j1 λv w s h x=>?_;subst s);exact amT a h x C e b
def anS(b:7e3):158 [33e6,1e1] [.cA,22e4,.cA]:=fY aq λC a h0 hs p=>by(show kX hs.kV λv w x e s h r=>?_;subst e);exact amU b s h r C a h0 p
def anT(h:16e0):158 [48e9,6e5] []:=fY aq λC s h0 hs x=>by cases hs.aR;exact amV h C s x
def anU(h:16e0):158 [48e7,6e5] []:=fY aq λC s h0 hs x=>by cases hs.aR;exact am9 h C s x
def anV(r:16e0):158 [8e6,6e5] [.cA,.cA,.cA]:=fY aq λC a h0 hs p=>by(show kX hs.kV λv w x e s h b=>?_;subst e);exact am8 r s h b C a h0 p
def anW(b:CP x app):158 [28e7,0 x,17e1] [.cA,.cA,.cA]:=fY aq λC a h0 hs p=>by(show kX hs.kV λv w x e s h r=>?_;subst e);exact amX b s h r C a h0 p
def row_tin(b:IN e t):158 [8e7,11e5,1e1] [.cA,.cA,.cA]:=fY aq λC r h0 hs k=>by(show kX hs.kV λv w x a s h p=>?_;subst a);exact amY b s h p C r h0 k
def row_msz:109 [0 63] [] [.x]:=fY aq λC s h0 h x=>by cases h.aR;exact am4 C s x
def row_mgr:109 [17e2] [.cA] [.x]:=fY aq λC x h0 e a=>by(show aN e.ej λv h s=>?_;subst h);exact am5 s C x a
def row_mcp:158 [20e8] [.cA,.cA,.cA]:=fY aq λC a h0 b p=>by(show kX b.kV λv w x e s h r=>?_;subst e);exact am6 s h r C a h0 p
def row_mfl:158 [16e1] [.s8,.cA,.cA]:=fY aq λC a h0 b p=>by(show kX b.kV λv w x e s h r=>?_;subst e);exact am7 s h r C a h0 p
def lF(h:f=1\/f=2\/f=3\/f=4):158 [4e0,0 f] [q]:=fY aq λC e h0 a b=>by(show aN a.ej λv x s=>?_;subst x);exact ans h s C e b
def row_far:109 [4e0,3e8] [.j2,.cA] [.j2]:=fY aq λC e h0 a b=>by(show jz a.j1 λv w s h x=>?_;subst s);exact any h x C e h0 b
def Dq{q t:K}(a:q=1\/q=2)(b:19e3):158 [4e1,10e7,1e1] [.cA,kv]:=fY aq λC e h0 hs r=>by(show jz hs.j1 λv w s h x=>?_;subst s);exact sim_ind a b h x C e h0 r
def Dr(b:19e3):109 [4e1,3e8,1e1] [.cA,.j2,.cA] [.j2]:=fY aq λC a h0 hs p=>by(show kX hs.kV λv w x e s h r=>?_;subst e);exact anB b s h r C a h0 p
def LU_of:∀p∈A9,LU p.1 p.2:=by unfold LU;decide
def LS_of:∀p∈Ba,LS p.1 p.2.1 p.2.2:=by unfold LS;decide
def ld_or(h:c∈xN):(∃n,LU c n)\/∃n q,LS c n q:=by
 have z:=D.ib.mp (show xN.dJ (λc=>A9.fN (λp=>274 p.1 c)||Ba.fN λp=>274 p.1 c)=true by decide) c h;rcases al.tR.mp z with z|z
 ·show aN (D.p8.mp z) λp s e=>?_;exact .a4 ⟨p.2,fo e▸LU_of p s⟩
 ·show aN (D.p8.mp z) λp s e=>?_;exact .aE ⟨p.2.1,p.2.2,fo e▸LS_of p s⟩
def row_ld(p:c∈xN)(r:0<=o):109 [1e5,0e7,12e6] [.cA] [.x]:=by
 rcases ld_or p with⟨n,h⟩|⟨n,q,h⟩
 ·exact fY h.Y.2 (λC e h0 a b=>by(show aN a.ej λv x s=>?_;subst x);exact ano h r s C e h0 b)
 ·exact fY h.Y.2.1 (λC e h0 a b=>by(show aN a.ej λv x s=>?_;subst x);exact anp h r s C e h0 b)
def Xs(h:ST c n)(m:0<=o)(k:∀v,KV kv v->∃x,v= 6e6/\0<=x):158 [1e5,0e7,12e6] [kv,.cA]:=fY h.Y.2 (λC r h0 s u=>by
 (show jz s.j1 λv w e a b=>?_;subst e)
 clear s
 (show aN (k v a) λx p q=>?_;subst p)
 exact anr h m b q C r h0 u)
def row_st(a:c∈Kx)(s:0<=o):158 [1e5,0e7,12e6] [.cA,.cA]:=by
 have h:∃n,ST c n:=by
  exact mE (C:=λc=>∃n,ST c n) ⟨4,by unfold ST;decide⟩ (382 1 (382 2 mN)) c a
 show oE h λn h=>?_;exact Xs h s (by rintro v ⟨x,e,h0,_⟩;exact⟨x,e,h0⟩)
def row_st'(a:c∈Ky)(s:0<=o):158 [1e5,0e7,12e6] [.j2,.cA]:=by
 have h:∃n,ST c n:=by
  exact mE (C:=λc=>∃n,ST c n) ⟨8,by unfold ST;decide⟩ (382 1 (382 2 (382 4 mN))) c a
 show oE h λn h=>?_;exact Xs h s (by rintro v ⟨x,e,h0,_⟩;exact⟨x,e,h0⟩)
def anX:qd [.X [21e2]] []:=by
 intro mL sh b b0 k ns au apx hm hL h3 hd h0 x;(show lG (Oj hd) λe1 h s e4=>?_;clear h;clear s);cases x.aR;exact anz ⟨apx,hm,hL,h3,e1⟩ (e4 H) h0
def Xt{t:K}(a:19e3){B:0e0}:qd (.X [8e3,1e3,1e1]::B) [.cA,.cA]:=by
 intro mL sh b b0 k ns au apx hm hL h3 hd h0 hs;(show lG (Oj hd) λe1 e s e4=>?_;clear e;clear s);(show jz hs.j1 λv w s h x=>?_;subst s);clear hs;exact anE a h x ⟨apx,hm,hL,h3,e1⟩ h0
universe e
def Al(C:153 K):I->Prop
 |0=>ku
 |n+1=>Al C n/\C n
def Xu{C:153 K}:∀{n:I},Al C n->∀i:I,i<n->C i
 |0,_,i,h=>bM h (I.Lb _)
 |n+1,g,i,h=>(I.lt_succ_iff_lt_or_eq.mp h).ak (Xu g.1 i) λe=>e▸g.2
def wl(a:K)(n:I)(h:0<n):0<=a.ah n:=by rw[l9 _ (by exact K.nR n)];exact K.nh _ (by exact K.natCast_ne_zero_iff_pos.bn h)
def Ol(a:K)(n:I)(h:0<n):a.ah n<n:=by rw[l9 _ (by exact K.nR n)];exact K.n9 _ (by exact K.natCast_pos.bn h)
def Om(n:I){C:153 K}{k:K}(h0:0<=k)(s:k<n)(g:Al C n):C k:=by
 rw[<-K.um h0]at s⊢;exact Xu g _ (K.Le.mp s)
def uz(a:K)(n:I)(h:0<n){C:153 K}(g:Al C n):C (a.ah n):=by
 exact Om n (wl a n h) (Ol a n h) g
def zh(a:K):21e1=0\/21e1=1:=uz (C:=λz=>z=0\/z=1) a 2 aq (107 d2 2e6 21e5)
def rc(a:K):8e2=0\/8e2=1\/8e2=2:=uz (C:=λz=>z=0\/z=1\/z=2) a 3 aq ⟨(107 d2 2e6 15e6),78 H⟩
def Xv(a:K):38e1=0\/38e1=1\/38e1=2\/38e1=3:=uz (C:=λz=>z=0\/z=1\/z=2\/z=3) a 4 aq (107 (107 d2 2e6 15e6) 36e6 (.aE (78 H)))
def Xw(a:K):31e9=0\/31e9=1\/31e9=2\/31e9=3\/31e9=4:=uz (C:=λz=>z=0\/z=1\/z=2\/z=3\/z=4) a 5 aq ⟨(107 (107 d2 2e6 15e6) 36e6 (.aE 36e6)),230 H⟩
def fm7(a:K):19e9=0\/19e9=1\/19e9=2\/19e9=3\/19e9=4\/19e9=5\/19e9=6:=uz (C:=λz=>z=0\/z=1\/z=2\/z=3\/z=4\/z=5\/z=6) a 7 aq ⟨(107 (107 (107 d2 2e6 15e6) 36e6 (.aE 36e6)) 36e7 (.aE 36e7)),78 (230 H)⟩
def fm8(a:K):20e0=0\/20e0=1\/20e0=2\/20e0=3\/20e0=4\/20e0=5\/20e0=6\/20e0=7:=uz (C:=λz=>z=0\/z=1\/z=2\/z=3\/z=4\/z=5\/z=6\/z=7) a 8 aq (107 ⟨(107 ⟨(107 d2 2e6 15e6),36e6⟩ (.aE 36e6) 36e7),.aE 36e7⟩ (230 (78 2e6)) (.aE (78 (230 H))))
def anY(a:K):12e7=0\/12e7=1\/12e7=2\/12e7=3\/12e7=4\/12e7=5\/12e7=6\/12e7=7\/12e7=8\/12e7=9\/12e7=10\/12e7=11:=uz (C:=λz=>z=0\/z=1\/z=2\/z=3\/z=4\/z=5\/z=6\/z=7\/z=8\/z=9\/z=10\/z=11) a 12 aq (107 (107 (107 (107 ⟨(107 ⟨d2,2e6⟩ 15e6 36e6),.aE 36e6⟩ 36e7 (230 (.aE 2e6))) (78 36e7) (.aE (78 36e7))) (230 36e7) (.aE (230 36e7))) (78 (230 36e7)) (.aE (230 (230 (78 H)))))
def Ds(e:ko as=ko yZ)(h:cw aw d f as v):cw aw d f yZ v:=λO T=>uv (λs s s r=>v7 e.bi r) (h O T)
def anZ(e:dG v=dG v')(h:cw aw d f as v):cw aw d f as v':=λO T=>Wg (λs s s r=>o6 e r) (h O T)
def jf{ca:6e1}(dj:∀O T,152 aw n d f as O o= 92 v O ca)(h:13e1)(s:(lk ft f).iq=true)(e:dG v=dG v'):cw aw d f as v':=anZ e λO T=>iY (dj O T) h (iZ s)
def Dt(T:0e1):Prop:=∀k v,19e1=2e5->∀g:I->I,g 0=0->cK g v=v
def iy(d f:I)(as:0e0):Prop:=∃d5,ma d5/\d5.U<=6/\(∀g,bQ g d5=d5)/\∀B ft T,(∀g,bQ g B=B)->Dt T->122 d (22 f as) [5e0] T (6 d5) [5e0] T
def an0{ca:6e1}(h:iA r= 92 v [o] ca):∃s,r= .aT (.v v) ⟨o::s,T,[]⟩ ca:=by
 cases r with
 |aT a F ob=>
  obtain⟨O,k,oc⟩:=F;(show hT (Eq.mp (R.aT.fu ..) h) λe u x=>?_;subst e;subst x);(show hT (Eq.mp (MS.mk.fu ..) u) λh1 b x=>?_;subst b;subst x);cases O with
  |aR=>cases h1
  |aQ p s=>
   rw[D.take_succ_cons,D.take_zero]at h1;cases h1;exact⟨s,H⟩
 |a8 i F ob=>cases h
 |no w=>cases h
def an1{B:0e0}{ft:al}{s:1e0}{T:0e1}(h:∀g,bQ g B=B)(x:Dt T):gb 1 (5e0::s) [5e0] T T (gm [0] (.az B ft::s:1e0).U):=
 gb.sE (fV:=[0]) (by
  refine [G (eI 5e0)]=[G (eI (f9 _ 5e0))]
  refine [G (eI _)]=[G (eI (.az (bQ _ _) _))];rw[h]) (by simp) (λk v e=>⟨v,e,by rw[x k v e _ H]⟩) H
def jg{o:0e0->al->2e1}{ca:0e0->al->6e1}(hd:ma zi)(b:zi.U<=6)(k:∀g,bQ g zi=zi)(a:∀g,bQ g d5=d5)
  (dj:∀B ft T,iA (apy aw n d (22 f as) ⟨[5e0],T,o B ft⟩)= 92 (.ad d5 t) [5e0] (ca B ft)) (ho:∀B ft,(∀g,bQ g B=B)->∀p∈ca B ft,p) (hk:(lk ft f).iq=true) (e:ko d5=ko zi):iy d f as:=by
 show⟨zi,hd,b,k,λB ft T h m=>?_⟩;show oE (an0 (dj B ft T)) λs hr=>?_;have S:=hR d n (22 f as) ⟨[5e0],T,o B ft⟩;rw[hr]at S;have S2:iI d (22 f as) ⟨[5e0],T,o B ft⟩ (.aT (.v (cK (gm [0] (.az B ft::s:1e0).U) (.ad d5 t))) ⟨5e0::s,T,[]⟩ (ca B ft)):=by
  rw[show cK _ (.ad d5 t)= .ad (bQ _ d5) t from H,a];exact S
 show Wg (v:= .ad d5 t) (λx x x r=>o6 ?_ r) (Wc S2 (ho B ft h) (an1 h m) (iZ hk));refine V.ad _ true= 6 _;rw[e]
def mb(hd:ma d5)(x:d5.U<=6)(e:∀g,bQ g d5=d5)(h:cw aw d f as (6 d5)):iy d f as:=⟨d5,hd,x,e,λB ft T s s=>h _ T⟩
def ks(e:ko as=ko yZ)(h:iy d f as):iy d f yZ:=by
 (show sO h λd5 h1 h2 h3 x=>?_;try clear h);exact⟨d5,h1,h2,h3,λB ft T a b=>uv (λs s s r=>v7 e.bi r) (x B ft T a b)⟩
section
variable{r1 r2 r3 r4 r5:V}{a b c d:D apv}
def Xx(s:d4 r1 [] []):ma [r1]:=⟨λr h=>by rcases 52e9 with H;exact s.1,λB x h=>kW x s h⟩
def sH(s:d4 r1 [] a)(h2:d4 r2 a []):ma [r1,r2]:=⟨214 s.1 h2.1 mN,λB x h=>252 s (kW x h2 h)⟩
def oi(s:d4 r1 [] a)(h2:d4 r2 a b)(h3:d4 r3 b []):ma [r1,r2,r3]:=⟨214 s.1 h2.1 (mE h3.1 mN),λB x h=>252 s (252 h2 (kW x h3 h))⟩
def sI(x:d4 r1 [] a)(h2:d4 r2 a b)(h3:d4 r3 b c)(s:d4 r4 c []):ma [r1,r2,r3,r4]:=⟨214 x.1 h2.1 (214 h3.1 s.1 mN),λB e h=>252 x (252 h2 (252 h3 (kW e s h)))⟩
def Du(e:d4 r1 [] a)(h2:d4 r2 a b)(h3:d4 r3 b c)(x:d4 r4 c d)(s:d4 r5 d []):ma [r1,r2,r3,r4,r5]:=⟨214 e.1 h2.1 (mE h3.1 (214 x.1 s.1 mN)),λB r h=>252 e (252 h2 (252 h3 (252 x (kW r s h))))⟩
universe e
abbrev d7(n:K):V:= .X [5e8,0e3]
def jh:d4 (d7 n) [] [.cA]:=Dp aq
def oj:d4 (d7 n) [q] [.cA,q]:=Dp (ts:=[q]) (by refine 1<=5;decide)
def rd:d4 (d7 n) [q,r] [.cA,q,r]:=Dp (ts:=[q,r]) (by refine 2<=5;decide)
def zj(d:I)(a:K):∃n,cw aw (d+1) 1344 [0e2] 0e3:=by
 have h:20e0=0\/20e0=1\/20e0=2\/20e0=3\/20e0=4\/20e0=5\/20e0=6\/20e0=7:=fm8 _;have x:∃n u,dq [0e7,1e3,12e9,0 2147483647,0 (-2147483648),0 255,0 (-129),2 (a.ah 1000)] 20e0=G (.y n u):=by
  rcases h with s|s|s|s|s|s|s|s<;>rw[s]<;>exact⟨_,_,H⟩
 show qf x λn u x=>?_;exact⟨n,334 (adm aw d O T a n u) (130 H H x) cI⟩
def zk(d:I)(t b:K):∃(p n:K) (q:al),cw aw (d+1) 1351 [2 t,2 b] (6 [.X [0 p,.y n q]])/\∀ts:D apv,ts.U<=5->109 [0 p,.y n q] ts (22e4::ts):=by
 by_cases x:t=1
 ·subst x;by_cases s:b.ah 2=0
  ·exact⟨32,0,false,Ds (as:=[1e3,2 b]) cI (334 (adn aw d O T b) (24 H 54e6) cI),λts h=>anH h⟩
  ·exact⟨208,-17,true,Ds (as:=[1e3,2 b]) cI (334 (ado aw d O T b) (24 H (uA s)) cI),λts h=>Xq 21e5 h⟩
 ·have a:22e4= .rf:=d6 x;rw[a];have e:(t==1)=false:=uA x;by_cases s:b.ah 3=0
  ·exact⟨208,-16,true,334 (adp aw d O T t b) (130 e H 54e6) cI,λts h=>Xq 2e6 h⟩
  ·exact⟨210,(b.aL 3).ah 6,true,334 (adq aw d O T t b) (ac e (27 H (uA s) H H)) cI,λts h=>anG (by rw[l9 _ aq];exact⟨K.nh _ aq,K.n9 _ aq⟩) h⟩
def Dv(d:I)(a m:K)(hm:m=6\/m=17\/m=18):∃x app z,cw aw (d+1) 1358 [0e2,0 m] (6 [d7 x,40e7,d7 z]):=by
 show⟨a.ah m,(a.aL m).ah m,(a.aL (m^2)).ah 8,Ds (as:=[0e2,2 m]) cI (334 (t_three aw d O T a m) ?_ cI)⟩;rcases hm with H|rfl|rfl<;>exact(ac H (ac H (ac H (ac H (ac H (ac H a6))))))
def Xy(hd:d=0\/d=1)(a:K):iy 38 1363 [0 d,0e2]:=by
 have h:12e7=0\/12e7=1\/12e7=2\/12e7=3\/12e7=4\/12e7=5\/12e7=6\/12e7=7\/12e7=8\/12e7=9\/12e7=10\/12e7=11:=anY _;have x:∃c,c∈xN/\dq [0 40,0 41,0 44,0 45,0 46,0 47,0 48,0 49,0 50,0 51,0 52,0 53] 12e7=G 1e5:=by
  rcases h with s|s|s|s|s|s|s|s|s|s|s|s
  ·exact(131 40)
  ·exact(131 41)
  ·exact(131 44)
  ·exact(131 45)
  ·exact(131 46)
  ·exact(131 47)
  ·exact(131 48)
  ·exact(131 49)
  ·exact(131 50)
  ·exact(131 51)
  ·exact(131 52)
  ·exact(131 53)
 show aN x λc x s=>?_;have b:vr c=1\/vr c=2\/vr c=3\/vr c=4:=by unfold vr;split<;>(try split)<;>lia
 exact jg (oi jh (row_ld x (wl ((a.aL 12).aL 17) 3 aq)) (lF b)) 24e5 36e3 36e3 (λB ft T=>t_ol aw hd x T B ft a) (λB ft e=>(72 H s (27 H H H H))) av cI
def Xz(hd:d=2\/d=3)(a:K):iy 38 1363 [0 d,0e2]:=by
 show oE (zj 36 ((12e1).aL 34)) λn b=>?_;have h3:(12e1).ah 3=0\/(12e1).ah 3=1\/(12e1).ah 3=2:=rc _;have hm:∃m u,dq [0e3,2 ((9223372036854775807:K)-12e1),2 ((-9223372036854775808:K)+12e1)] ((12e1).ah 3)=G (.y m u):=by
  rcases h3 with h3|h3|h3<;>rw[h3]<;>exact⟨_,_,H⟩
 show qf hm λm u hm=>?_;have h:19e9=0\/19e9=1\/19e9=2\/19e9=3\/19e9=4\/19e9=5\/19e9=6:=fm7 _;have x:(∃c,c∈Kx/\dq [0 54,0 55,0 58,0 59,0 60,0 61,0 62] 19e9=G 1e5)\/∃c,c∈Ky/\dq [0 54,0 55,0 58,0 59,0 60,0 61,0 62] 19e9=G 1e5:=by
  rcases h with s|s|s|s|s|s|s
  ·exact .a4 (131 54)
  ·exact .aE (131 55)
  ·exact .a4 (131 58)
  ·exact .a4 (131 59)
  ·exact .aE (131 60)
  ·exact .aE (131 61)
  ·exact .aE (131 62)
 rcases x with⟨c,x,s⟩|⟨c,x,s⟩
 ·exact jg (oi jh oj (row_st x (wl ((12e1).aL 17) 2 aq))) 24e5 36e3 36e3 (λB ft T=>t_os aw hd x T B ft a n) (λB ft e=>(73 H s H H b H H H a6)) av cI
 ·exact jg (oi jh (q9 (n:=m) (ts:=[.cA]) aq) (row_st' x (wl ((12e1).aL 17) 2 aq))) 24e5 36e3 36e3 (λB ft T=>t_ou aw hd x T B ft a n m u) (λB ft e=>(72 H s (73 H H b H hm H H H a6))) av cI
def an2(a:K):iy 38 1363 [10e8,0e2]:=191 [.X [0 63],.X [4e0,1e3]] (sH row_msz (186 1)) 28e3 (t_o4 aw 36 O T a) a6
def an3(a:K):iy 38 1363 [3e8,0e2]:=by
 have h:38e1=0\/38e1=1\/38e1=2\/38e1=3:=Xv _;have x:∃n u,dq [0e7,1e3,1e8,12e9] 38e1=G (.y n u):=by
  rcases h with s|s|s|s<;>rw[s]<;>exact⟨_,_,H⟩
 show qf x λn u x=>?_;exact 191 [d7 n,.X [17e2],.X [4e0,1e3]] (oi jh row_mgr (186 1)) 36e3 (t_o5 aw 36 O T a n u) (24 H x)
def an4(a:K):iy 38 1363 [0 6,0e2]:=191 [d7 (a.ah 18),d7 (((a.aL 18).ah 700)-100),d7 ((a.aL 12600).ah 7),.X [16e1]] (sI jh oj (anF (ts:=[.cA,.cA]) (by rw[l9 _ aq];lia) aq) row_mfl) 28e3 (t_o6 aw 36 O T a) (ac H (27 H H H H))
def an5(a:K):iy 38 1363 [16e9,0e2]:=by
 show nn (Dv 36 a 18 (78 H)) λx app z h=>?_;exact 191 [d7 x,40e7,d7 z,.X [20e8]] (sI jh oj rd row_mcp) 28e3 (t_o7 aw 36 O T a (d7 x) 40e7 (d7 z)) (24 h aq)
def an6(a:K):iy 38 1363 [0 8,0e2]:=by
 show nn (Dv 36 (a.aL 2) 17 15e6) λx app z h=>?_;have hr:21e1=0\/21e1=1:=zh _;have s:ia 21e1:=hr;exact 191 [d7 x,40e7,d7 z,.X [8e6,0 21e1]] (sI jh oj rd (anV s)) 36e3 (t_o8 aw 36 O T a (d7 x) 40e7 (d7 z)) (27 H h H aq)
def an7(a:K):iy 38 1363 [0 9,0e2]:=by
 have hr:21e1=0\/21e1=1:=zh _;have s:ia 21e1:=hr;exact 191 [.X [48e7,0 21e1]] (Xx (anU s)) 42e0 (t_o9 aw 36 O T a) (39 H)
def an8(a:K):iy 38 1370 [0 12,0e2]:=by
 have hr:8e2=0\/8e2=1\/8e2=2:=rc _;have s:ee 8e2:=hr;by_cases h1:8e2=1
 ·exact 191 [d7 ((16e2).ah 8),.X [38e2,49e4],.X [4e0,10e8]] (oi jh (Xr s) (186 4)) 42e0 (t_e12_0 aw 36 O T a) (27 H H H (by rw[h1];rfl))
 ·exact 191 [d7 ((16e2).ah 8),.X [38e2,49e4],.X [4e0,3e4]] (oi jh (Xr s) (186 3)) 42e0 (t_e12_1 aw 36 O T a) (27 H H H (uA h1))
def an9(a:K):iy 38 1370 [0 13,0e2]:=by
 show om (zk 36 8e2 (25e9 8)) λp n q x h=>?_;have hr:8e2=0\/8e2=1\/8e2=2:=rc _;have s:ee 8e2:=hr;exact 191 [d7 ((16e2).ah 8),.X [0 p,.y n q],.X [0 38,49e4]] (oi jh (h [.cA] aq) (anP s)) 36e3 (t_e13 aw 36 O T a (.X [0 p,.y n q])) (ac H (72 H H (27 H x aq aq)))
def aoa(a:K):iy 38 1370 [0 14,0e2]:=by
 have hr:8e2=0\/8e2=1\/8e2=2:=rc _;have s:ee 8e2:=hr;exact 191 [.X [48e8,49e4],.X [4e0,1e3]] (sH (anQ s) (186 1)) 42e0 (t_e14 aw 36 O T a) (24 H H)
def aob(a:K):iy 38 1370 [0 15,0e2]:=by
 show om (zk 36 8e2 16e2) λp n q b x=>?_;have s:(25e9 18).ah 5=0\/(25e9 18).ah 5=1\/(25e9 18).ah 5=2\/(25e9 18).ah 5=3\/(25e9 18).ah 5=4:=Xw _;have h:∃m u,dq [0e7,1e3,1e8,3e4,12e9] ((25e9 18).ah 5)=G (.y m u):=by
  rcases s with s|s|s|s|s<;>rw[s]<;>exact⟨_,_,H⟩
 show qf h λm u h=>?_;have hr:8e2=0\/8e2=1\/8e2=2:=rc _;have e:ee 8e2:=hr;exact 191 [.X [0 p,.y n q],d7 m,.X [39e3,49e4],.X [4e0,1e3]] (sI (x [] aq) oj (anR e) (186 1)) 52e2 (t_e15 aw 36 O T a m u (.X [0 p,.y n q])) (ac H (72 H b (27 H H h aq)))
def aoc(a:K):iy 38 1370 [4e0,0e2]:=by
 show om (zk 36 8e2 (25e9 6)) λp n q x h=>?_;have hr:8e2=0\/8e2=1\/8e2=2:=rc _;have s:ee 8e2:=hr;exact 191 [d7 ((16e2).ah 6),.X [0 p,.y n q],d7 ((25e9 108).ah 5),.X [33e6,49e4]] (sI jh (h [.cA] aq) rd (anS s)) 36e3 (t_e16 aw 36 O T a (.X [0 p,.y n q])) (ac H (73 H H H x aq H H aq a6))
def aod(a:K):iy 38 1370 [4e1,0e2]:=by
 show nn (Dv 36 (a.aL 5) 6 2e6) λx app z h=>?_;have hr:31e9=0\/31e9=1\/31e9=2\/31e9=3\/31e9=4:=Xw _;have e:∃i j,CP i j/\dq [.X [0e7,1e8],.X [1e8,0e7],.X [0e7,0e7],.X [1e3,1e3],.X [1e8,1e8]] 31e9=G (.X [6e5,0 j]):=by
  rcases hr with s|s|s|s|s
  ·exact(381 0 2)
  ·exact(381 2 0)
  ·exact(381 0 0)
  ·exact(381 1 1)
  ·exact(381 2 2)
 show gd e λi j b e=>?_;exact 191 [d7 x,40e7,d7 z,.X [28e7,6e5,0 j]] (sI jh oj rd (anW b)) 52e2 (t_e17 aw 36 O T a i j (d7 x) 40e7 (d7 z)) (ac H (72 H H (27 e H h aq)))
def aoe(a:K):iy 38 1370 [0 18,0e2]:=by
 show nn (Dv 36 16e2 6 2e6) λx app z h=>?_;have hr:8e2=0\/8e2=1\/8e2=2:=rc _;have e:∃i j,IN i j/\dq [.X [0e7,0e7],.X [0e7,1e8],.X [1e3,1e3]] 8e2=G (.X [6e5,0 j]):=by
  rcases hr with s|s|s
  ·exact(415 0 0)
  ·exact(415 0 2)
  ·exact(415 1 1)
 show gd e λi j b e=>?_;exact 191 [d7 x,40e7,d7 z,.X [8e7,6e5,0 j]] (sI jh oj rd (row_tin b)) 52e2 (t_e18 aw 36 O T a i j (d7 x) 40e7 (d7 z)) (ac H (27 H e h aq))
def aof(a:K):iy 38 1370 [8e3,0e2]:=by
 have hr:21e1=0\/21e1=1:=zh _;have s:ia 21e1:=hr;exact 191 [.X [48e9,0 21e1]] (Xx (anT s)) 42e0 (t_e19 aw 36 O T a) (130 H H H)
def XA:Dt [(p,.y a t),(q,.y b u),(r,.y c w)]:=λk v h g s=>by
 have hm:=iW h;clear h;simp only[D.eR,kC.mk.fu,D.mn,mo]at hm;rcases hm with⟨_,H⟩|⟨_,H⟩|⟨_,H⟩<;>rfl
def aog(h:0<=k/\k<10):iy 38 1363 [2 k,0e2]:=Om 10 (C:=λk=>iy 38 1363 [2 k,0e2]) h.1 h.2 (107 (107 (107 ⟨(107 ⟨d2,162 [0e7,0e2] (Xy 2e6 a)⟩ (162 [1e3,0e2] (Xy 21e5 a)) (162 [1e8,0e2] (Xz 2e6 a))),162 [3e4,0e2] (Xz 21e5 a)⟩ (162 [10e8,0e2] (an2 a)) (162 [3e8,0e2] (an3 a))) (162 [0 6,0e2] (an4 a)) (162 [16e9,0e2] (an5 a))) (162 [0 8,0e2] (an6 a)) (162 [0 9,0e2] (an7 a)))
def aoh(h:12<=k/\k<20):iy 38 1370 [2 k,0e2]:=Om 20 (C:=λk=>12<=k->iy 38 1370 [2 k,0e2]) (K.dW aq h.1) h.2 ⟨(418 (418 ⟨(418 ⟨⟨⟨⟨⟨⟨⟨⟨⟨⟨⟨⟨d2,λh=>bM h aq⟩,λh=>bM h aq⟩,λh=>bM h aq⟩,λh=>bM h aq⟩,λh=>bM h aq⟩,λh=>bM h aq⟩,λh=>bM h aq⟩,λh=>bM h aq⟩,λh=>bM h aq⟩,λh=>bM h aq⟩,λh=>bM h aq⟩,λh=>bM h aq⟩ [0 12,0e2] (an8 a) (162 [0 13,0e2] (an9 a))),λs=>162 [0 14,0e2] (aoa a)⟩ [0 15,0e2] (aob a) (162 [4e0,0e2] (aoc a))) [4e1,0e2] (aod a) (162 [0 18,0e2] (aoe a))),λs=>162 [8e3,0e2] (aof a)⟩ h.1
def aoi(x:K):iy 39 1377 [6e6]:=by
 have P:0<=7e6/\7e6<24:=⟨wl x 24 aq,Ol x 24 aq⟩;by_cases h1:7e6<10
 ·show sO (aog (k:=7e6) (a:=30e7) ⟨P.1,h1⟩) λd5 d1 j i o=>?_;exact jg d1 j i i (λB ft T=>t_do aw T B ft x d5) (λB ft e=>(27 H H (eE h1) (o B ft _ e XA))) av H
 have g1:=fX h1;by_cases h2:7e6=10
 ·have hr:19e0 3=0\/19e0 3=1\/19e0 3=2:=rc _;rcases hr with h|h|h
  ·exact 170 (372 [16e3,0e7] [4e0,1e3] anJ (186 1)) (Kz aw T B ft x) (72 H H (27 g1 (by rw[h2];rfl) H H)) 47e6
  ·exact 170 (372 [16e3,1e3] [4e0,1e8] anL (186 2)) (Kz aw T B ft x) (72 H H (27 g1 (by rw[h2];rfl) H H)) 47e6
  ·exact 170 (372 [16e3,1e8] [4e0,3e4] anN (186 3)) (Kz aw T B ft x) (72 H H (27 g1 (by rw[h2];rfl) H H)) 47e6
 have g2:=uA h2;by_cases h3:7e6=11
 ·have hr:19e0 3=0\/19e0 3=1\/19e0 3=2:=rc _;rcases hr with h|h|h
  ·show oE (zj 37 (11e4 3)) λn b=>?_;exact 170 (372 [5e8,0e3] [21e3,0e7] (Dp aq) anK) (QR aw T B ft x n 0e6) (73 H H g1 g2 (by rw[h3];rfl) H 33e2 H (126 H b H aq a6)) 47e6
  ·show oE (zj 37 (11e4 3)) λn b=>?_;exact 170 (372 [21e4,0e3] [21e3,1e3] (q9 aq) anM) (QR aw T B ft x n 0e6) (126 H H g1 g2 (73 (by rw[h3];rfl) H 33e2 H H b H aq a6)) 47e6
  ·show om (zk 37 0 (11e4 3)) λp n q l c=>?_;exact 170 (372 [0 p,.y n q] [21e3,1e8] (c [] aq) anO) (t_d11_0 aw T B ft x 0 (.X [0 p,.y n q])) (ac H (72 H g1 (73 g2 (by rw[h3];rfl) H 33e2 H (Ds (as:=[12e8,328 3]) cI l) H aq a6))) 47e6
 have g3:=uA h3;by_cases d:7e6<20
 ·show sO (aoh (k:=7e6) (a:=30e7) ⟨bN,d⟩) λd5 d1 j i o=>?_;exact jg d1 j i i (λB ft T=>t_de aw T B ft x d5) (λB ft e=>(ac H (72 H g1 (27 g2 g3 (eE d) (o B ft _ e XA))))) av H
 have r:=fX d;by_cases t:7e6=20
 ·show om (zk 37 (19e0 2) (11e4 2)) λp n q l c=>?_;have z:=amL (19e0 2);exact 170 (oi (r1:= .X [0 p,.y n q]) (r2:= .X [43e3]) (r3:= .X [4e0,1e3]) (c [] aq) (anI z) (186 1)) (t_d20 aw T B ft x (.X [0 p,.y n q])) (ac H (72 H g1 (73 g2 g3 r (by rw[t];rfl) H H l aq a6))) cI
 have w:=uA t;show oE (zj 37 30e7) λn b=>?_;show oE (zj 37 (11e4 8)) λm hm=>?_;by_cases app:7e6=23
 ·exact 170 (sI (r1:=d7 n) (r2:= .X [21e4,2 m]) (r3:= .X [4e0,3e8]) (r4:= .X [4e0,1e8]) jh (q9 (ts:=[.cA]) aq) row_far (186 2)) (t_d23 aw T B ft x n m) (126 H H g1 g2 (73 g3 r w b H hm (by rw[app];rfl) aq a6)) cI
 have u:=uA app;have hr:19e0 4=0\/19e0 4=1\/19e0 4=2\/19e0 4=3:=Xv _;have g:(11e4 4).ah 2=0\/(11e4 4).ah 2=1:=zh _;rcases g with v|v
 ·rcases hr with h|h|h|h
  ·exact 170 (401 (d7 n) (.X [21e4,2 m]) (d7 ((11e4 8).ah 8)) (.X [4e1,3e8,0e7]) (.X [4e0,1e8]) jh (q9 (ts:=[.cA]) aq) rd (186 2)) (Be aw T B ft x n m 0) (72 H H (73 g1 g2 g3 r w b H hm (72 u H (73 33e2 H H H H 41e8 aq aq a6)))) cI
  ·exact 170 (401 (d7 n) (.X [21e4,2 m]) (d7 ((11e4 8).ah 8)) (.X [4e1,3e8,0e7]) (.X [4e0,1e8]) jh (q9 (ts:=[.cA]) aq) rd (186 2)) (Be aw T B ft x n m 0) (73 H H g1 g2 g3 r w b (73 H hm u H 33e2 H H H (126 H 41e8 aq aq a6))) cI
  ·exact 170 (oi (r1:=d7 n) (r2:=d7 ((11e4 8).ah 8)) (r3:= .X [4e1,1e3,0e7]) jh oj 53e9) (QS aw T B ft x n m 0) (73 H H g1 g2 g3 r w b (126 H hm u H (73 33e2 H H H H 41e8 aq aq a6))) cI
  ·exact 170 (oi (r1:= .X [21e4,2 m]) (r2:=d7 ((11e4 8).ah 8)) (r3:= .X [4e1,1e8,0e7]) (q9 aq) oj 53e9) (QT aw T B ft x n m 0) (73 H H g1 g2 g3 r w b (73 H hm u H 33e2 H H H (126 H 41e8 aq aq a6))) cI
 ·rcases hr with h|h|h|h
  ·exact 170 (401 (d7 n) (.X [21e4,2 m]) (d7 ((11e4 8).ah 8)) (.X [4e1,3e8,1e8]) (.X [4e0,1e8]) jh (q9 (ts:=[.cA]) aq) rd (186 2)) (Be aw T B ft x n m 2) (72 H H (126 g1 g2 g3 r (72 w b (126 H hm u H (73 33e2 H H H H 41e8 aq aq a6))))) cI
  ·exact 170 (401 (d7 n) (.X [21e4,2 m]) (d7 ((11e4 8).ah 8)) (.X [4e1,3e8,1e8]) (.X [4e0,1e8]) jh (q9 (ts:=[.cA]) aq) rd (186 2)) (Be aw T B ft x n m 2) (ac H (72 H g1 (73 g2 g3 r w b H hm u (73 H 33e2 H H H H 41e8 aq (ac aq a6))))) cI
  ·exact 170 (oi (r1:=d7 n) (r2:=d7 ((11e4 8).ah 8)) (r3:= .X [4e1,1e3,1e8]) jh oj 53e9) (QS aw T B ft x n m 2) (73 H H g1 g2 g3 r w b (73 H hm u H 33e2 H H H (126 H 41e8 aq aq a6))) cI
  ·exact 170 (oi (r1:= .X [21e4,2 m]) (r2:=d7 ((11e4 8).ah 8)) (r3:= .X [4e1,1e8,1e8]) (q9 aq) oj 53e9) (QT aw T B ft x n m 2) (126 H H g1 g2 (73 g3 r w b H hm u H (73 33e2 H H H H 41e8 aq aq a6))) cI
def zl:15e5:=match Qi.cX with
 | [_,.mr _ _ b,_,_]=>b
 |_=>[]
def Dw:Tk->al:=λtk=>match tk with
 | .gj _ _ _ _=>true
 |_=>false
abbrev uB(S:0e0):0e1:=[(93,4e5),(38,.Z 0)]
def aoj(P:PP)(S B s:0e0)(ft:al)(i:K):116 P 60 39 (.ss zl) [5e0] [(93,4e5),(38,.Z 0),(54,14e8)] [261 1377 (6 s) [5e0]]= 20 24e4 [37 (B++s)] [(93,4e5),(38,.Z 0),(54,14e8)] [] [9 i 100000007=true,P 39 (22 1377 [2 (i.ah 100000007)]) [5e0] [(93,4e5),(38,.Z 0),(54,14e8)] (36 (6 s) [5e0] [(93,4e5),(38,.Z 0),(54,14e8)]),(B++s).U<=16777216]:=by cases ft<;>kernel_rfl
def aok(P:PP)(T:0e1)(S B:0e0)(ft:al):152 P 60 40 1384 [4e5] [] [297 Dw (52 [5e0] l),1e9]= 139 (B++[.X [21e2]]) [5e0] [(46e6).U<=16777216,P 39 (.gj (.n 54) (356 46e6) 0 zl) [2e0] [(93,4e5),(38,.Z 0)] (52 [5e0] [(93,4e5),(38,.Z 0)]),bK ((6:K)<(S.U:K))=false,(B++[V.X [21e2]]).U<=16777216]:=by cases ft<;>kernel_rfl
def aol(P:PP)(T:0e1)(S B:0e0)(x t:K):152 P 60 40 1384 [4e5] [] [297 Dw (52 [37 B] l),6e7,.v 6e6,.v 6e6,.v 6e6,.v 1e1]= 139 ((B++[.X [5e8,50e2],.X [5e8,38 45e7 7],.X [8e3,1e3,1e1]])++[.X [21e2]]) [37 (B++[.X [5e8,50e2],.X [5e8,38 45e7 7],.X [8e3,1e3,1e1]])] [(46e6).U<=16777216,P 39 (.gj (.n 54) (356 46e6) 0 zl) [2e0] [(93,4e5),(38,.Z 0)] (52 [37 B] [(93,4e5),(38,.Z 0)]),bK ((6:K)<(S.U:K))=true,(dq S 6)=G 6e6,9 x 100=true,(dq S 6)=G 6e6,15 x 100=true,9 45e7 7=true,(dq S 6)=G 6e6,15 x 700=true,9 (x.aL 700) 2=true,(dq [0e7,1e8] ((x.aL 700).ah 2))=G 1e1,((B++[V.X [5e8,50e2],.X [5e8,38 45e7 7],.X [8e3,1e3,1e1]])).U<=16777216,(((B++[V.X [5e8,50e2],.X [5e8,38 45e7 7],.X [8e3,1e3,1e1]])++[V.X [21e2]])).U<=16777216]:=av
def uC(r:V):Prop:=∃c aD,r=V.X (1e5::aD)/\c∈11::19::jQ
def Do.b{r:V}(h:Do r):uC r:=by
 (show gd h λc aD e s=>?_;try clear h);exact⟨c,aD,e,54 (54 s)⟩
def ma.aR:ma []:=⟨λs h=>(nomatch h),λB s h=>h⟩
def ma.lV{a b:0e0}(x:ma a)(p:ma b):ma (a++b):=⟨λr h=>(300 h) (x.1 r) (p.1 r),λB s h=>by
 rw[D.eO]
 exact x.2 (b++B) (λe=>s (D.append_eq_nil_iff.mp e).2) (p.2 B s h)⟩
def wm{f:I->I}{a b:0e0}:bQ f (a++b)=bQ f a++bQ f b:=by rw[lE,lE,lE,D.sA]
def aom{S:0e0}{i:K}(s:∀g,bQ g S=S):Dt (uB S++[(54,14e8)]):=λk v h g g0=>by
 have hm:=iW h;clear h;simp only[uB,D.NS,D.uR,D.eR,kC.mk.fu,D.mn,mo]at hm;rcases hm with⟨_,H⟩|⟨_,H⟩|⟨_,H⟩
 ·exact bC (V.ad · _) (s _)
 ·exact bC V.Z g0
 ·rfl
def XB{apt:0e0}{k:I}{o:9e5}(h:apt[k]? =o):∀F,It.at F (356 apt) k=0e4:=λF=>by
 refine G apt[k]? =_;rw[h]
def aon{apt S:0e0}(hL:∀v∈apt,∃i,v=37e8)(w:∀g,bQ g S=S)(n:I):∀(k:I) (B:0e0) (ft:al),n+k=apt.U->(∀g,bQ g B=B)->B.U+6*n<=10000->∃d5 e,(ft=true\/0<n->e=true)/\ma d5/\d5.U<=6*n/\(∀g,bQ g d5=d5)/\aw 39 (.gj (.n 54) (356 apt) k zl) [5e0] (uB S) (52 [.az (B++d5) e] (uB S)):=by
 induction n with
 |i4=>
  intro k B ft u x p;show⟨[],ft,λh=>?_,.aR,31e8,λg=>rfl,?_⟩
  ·rcases h with h|h
   ·exact h
   ·lia
  ·rw[D.dZ];exact NE (XB (D.q4 bN))
 |hG n t=>
  intro k B ft u x p;have r:k<apt.U:=bN;show oE (hL apt[k] (D.N1 r)) λi d=>?_;show sO (aoi (i.ah 100000007)) λr1 d1 z a q=>?_;have app:∀g,bQ g (B++r1)=B++r1:=λg=>by rw[wm,x,a]
  have b:(B++r1).U+6*n<=10000:=by rw[D.hM];lia
  show uE (t (k+1) (B++r1) true bN app b) λr2 bO e1 e2 e3 e4 e5=>?_;have c:=e1 2e6;subst c;show⟨r1++r2,true,λs=>rfl,d1.lV e2,by rw[D.hM];lia,λg=>by rw[wm,a,e4],?_⟩;have dj:=aoj aw S B r1 ft i;have ss:aw 39 (.ss zl) [5e0] (uB S++[(54,14e8)]) (52 [37 (B++r1)] (uB S)):=by
   show v9 (a3:= 24e4) (f:=λi=>i) dj (130 H (q B ft _ x (aom w)) (by rw[D.hM];rw[D.hM]at b;lia)) ?_;exact⟨⟨λj o h=>⟨o,h,by rw[uu]⟩,λj h=>h,λj P s s h=>h,λk v h=>⟨v,wb (l:=uB S) (m:=[(54,37e8)]) h,by rw[n6]⟩⟩,λs s=>rfl,11e7⟩
  rw[<-D.eO];exact yY (XB (by rw[D.ic r,d])) (λo=>rfl) ss e5
def aoo{α:Type}{l:8e4}{a b:8e5}{v:α}(h:v∈bE l a b):v∈l:=D.U7 (D.U8 h)
def XC{α:Type}{l:8e4}{a b:8e5}:(bE l a b).U<=l.U:=by
 unfold bE;rw[D.qQ,D.sf];exact I.dW (I.Sd ..) (I.Se ..)
def aop{S:0e0}{v:V}{n:I}(h:S[n]? =2e5):dq S (n:K)=2e5:=h
def aoq{α:Type}{S:8e4}(h:6<S.U):(46e6).U=6:=by
 unfold bE;have e:xq (G 6) S.U=6:=by refine xp 6 S.U=6;rw[NT (395 6) bN];rfl
 rw[e,D.qQ,D.sf];refine min (6-0) (S.U-0)=6;lia
def aor{S:0e0}(m:∀v∈S,∃i,v=37e8)(d:S.U<=63)(q:∀g,bQ g S=S):∃B B2 bO,qd B []/\(∀r∈B,uC r)/\B.U<=1000/\(∀g,bQ g B=B)/\(∀g,bQ g B2=B2)/\∀T,122 40 (22 1384 [4e5]) [] T 9e0 [28e1] T:=by
 show uE (aon (apt:=46e6) (λv h=>m v (aoo h)) q (46e6).U 0 [] false H (λf=>rfl) (by have:=XC (l:=S) (a:=L) (b:=G 6);simp only[D.sk];lia)) λd5 ft e1 e2 e3 e4 e5=>?_;have c:=XC (l:=S) (a:=L) (b:=G 6);by_cases e:6<S.U
 ·have app:=aoq e;have j:=e1 (.aE bN);clear e1;subst j;show oE (m S[6] (D.N1 e)) λx o=>?_;have k:dq S 6=G 6e6:=aop (n:=6) (by rw[D.ic e,o]);have s:((x.aL 700).ah 2=0\/(x.aL 700).ah 2=1):=zh _;have eg:∀t:K,(dq [0e7,1e8] ((x.aL 700).ah 2))=G 1e1->qd [.X [8e3,1e3,1e1],.X [21e2]] [.cA,.cA]->∃B B2 bO,qd B []/\(∀r∈B,uC r)/\B.U<=1000/\(∀g,bQ g B=B)/\(∀g,bQ g B2=B2)/\∀T,122 40 (22 1384 [4e5]) [] T 9e0 [28e1] T:=by
   intro t w u;have p:∀g,bQ g ((d5++[V.X [5e8,50e2],.X [5e8,38 45e7 7],.X [8e3,1e3,1e1]])++[.X [21e2]])=(d5++[V.X [5e8,50e2],.X [5e8,38 45e7 7],.X [8e3,1e3,1e1]])++[.X [21e2]]:=λg=>by rw[wm,wm,e4];rfl
   show⟨_,_,_,?_,?_,?_,p,?_,λT=>iY (aol aw T S d5 x t) (72 bN e5 (73 (eE bN) k H k H H k H (126 H w ?_ ?_ a6))) 17e5⟩
   ·rw[D.eO];exact e2.2 _ (D.mJ _ _) (252 jh (252 oj u))
   ·exact λr h=>(300 h) (λh=>(300 h) (λh=>(e2.1 r h).b) (λh=>by simp only[D.eR,D.mn,mo]at h;rcases h with H|rfl|rfl<;>exact⟨_,_,H,aq⟩)) (λh=>by rcases 52e9 with H;exact⟨_,_,H,aq⟩)
   ·simp only[D.hM,D.m6,D.sk];lia
   ·exact λg=>by rw[wm,e4];rfl
   ·simp only[D.hM,D.m6,D.sk];lia
   ·simp only[D.hM,D.m6,D.sk];lia
  rcases s with s|s
  ·exact eg 0 54e6 (Xt 2e6)
  ·exact eg 2 54e6 (Xt 21e5)
 ·have p:∀g,bQ g (d5++[V.X [21e2]])=d5++[V.X [21e2]]:=λg=>by rw[wm,e4];rfl
  show⟨_,_,_,?_,?_,?_,p,e4,λT=>iY (aok aw T S d5 ft) (27 bN e5 (fX bN) ?_) 17e5⟩
  ·exact e2.2 _ (D.mJ _ _) anX
  ·exact λr h=>(300 h) (λh=>(e2.1 r h).b) (λh=>by rcases 52e9 with H;exact⟨_,_,H,aq⟩)
  ·simp only[D.hM,D.m6,D.sk];lia
  ·simp only[D.hM,D.m6,D.sk];lia
def aK.On{O ok:1e0}{T mH:0e1}{bG t:2e1}(R:160 (62 bG))(w:O.aj eI=ok.aj eI)(j:∀k n,19 mH=G n->∃v,19e1=2e5/\dG v=dG n):160 ⟨ok,mH,t⟩:=by
 have d:O.U=ok.U:=by have:=bC D.U w;simpa using bb
 show⟨R.d8,R.cU.aV d,λi o p e1 e2=>?_,R.nd,R.gy,R.up,⟨?_,λk v a b=>?_⟩,R.bI,R.hJ,R.b3,R.hj,R.gz,R.fx,R.dD,R.os,R.cW⟩
 ·have e:=bC (·[i]?) w;have e1:ok[i]? =0e4:=e1;simp only[D.nY,e1,ar.tc]at e;show aN 31e0 λo2 g1 g2=>?_;exact V6 g2 (R.O i o2 p g1 e2)
 ·obtain⟨m,f,l⟩:=R.bq.iN;exact⟨m,f,λk v a b=>(by show aN (j k v b) λv2 r h=>?_;exact(by show aN (l k _ a r) λu e q=>?_;exact⟨u,e,o6 h q⟩))⟩
 ·show aN (j k v b) λv2 r h=>?_;obtain(⟨c,u,e1,e2,e3,e4⟩):=200 k _ r;exact⟨c,u,e1,e2,o6 h e3,e4⟩
def aos(w:O.aj eI=ok.aj eI)(m:∀k n,19 mH=G n->∃v,19e1=2e5/\dG v=dG n)(h:aw d (.s sm) ok mH bI):aw d (.s sm) O T bI:=by
 intro o1 o2;show oA (h o1 o2) λh1 h2=>?_;exact⟨λk sc S q x J s Q EE Y a hz r p P=>h1 k sc S q x J s Q EE Y a hz r (p.On w m) P,λk sc apq B t b e c1 c2 x J s Q EE Y a hz r p P=>h2 k sc apq B t b e c1 c2 x J s Q EE Y a hz r (p.On w m) P⟩
def aot(p:O.aj eI=ok.aj eI)(r:∀k e,19 mH=G e->∃v,19e1=2e5/\dG v=dG e)(h:aw d (.gj tg it i b) ok mH bI):aw d (.gj tg it i b) O T bI:=by
 intro o1 o2 k sc apq B h1 h2 h3 x dC aC q s Q EE n wr Y m hz w u apv a b c P;exact h o1 o2 k sc apq B h1 h2 h3 x dC aC q s Q EE n wr Y m hz w (u.On p r) apv a b c P
def XD(t:al):∀l:D K,lP (264 (V.y i t))=G l
 | []=>rfl
 |i::l=>by refine(lP (264 (V.y i t))).aj (i:: ·)=_;rw[XD t l];rfl
def Oo:Tk->al:=λtk=>match tk with
 | .x e=>(e.xE.cr λp=>p.1.g?).fN (I.bY 97)
 |_=>false
def aou(P:PP)(d:I)(O:1e0)(S:0e0)(l:D K)(h:lP S=G l):116 P 9 d (.x (168 97 [35e3])) O [(93,4e5)] []= 20 (.v (2 l.lc)) O [(93,4e5)] [] []:=by
 have e:116 P 9 d (.x (168 97 [35e3])) O [(93,4e5)] []=mx (278 (278 (AX true "sum" [4e5] (198 [(93,4e5)] [])))):=av;have s:AX true "sum" [4e5] (198 [(93,4e5)] [])= .Y (2 l.lc) (198 [(93,4e5)] []):=by
  refine gN ((G S).cr lP) 42 (λl=>R.Y (V.y l.lc true) _)=_;rw[ar.yg,h];rfl
 rw[e,s];rfl
def aov(dj:116 aw n d (.x e) O T []= 92 v O []):122 d (.x e) O T v O T:=by
 have S:=hR d n (.x e) (62 []);rw[dj]at S;exact λo1 o2=>ajB (bI:= 36 v O T) (o2:=[]) S
def aow{d:I}{O:1e0}{hy:D K}:122 d (.x (168 97 [35e3])) O [(93,351 53e1)] (2 hy.lc) O [(93,351 53e1)]:=aov (aou aw d O _ hy (XD true hy))
def Op:15e5:=match Qh.cX with
 | [_,.mr _ _ b,_]=>b
 |_=>[]
abbrev g3:1e0:=[6e4,6e4,2e0]
def qe(m:4e8)(t:1e0):1e0:=m 0::m 1::m 2::m 3::m 4::m 5::m 6::m 7::m 8::m 9::m 10::m 11::m 12::m 13::m 14::m 15::m 16::m 17::m 18::m 19::m 20::m 21::m 22::m 23::m 24::m 25::m 26::m 27::m 28::m 29::m 30::m 31::m 32::m 33::m 34::m 35::m 36::m 37::m 38::m 39::m 40::m 41::m 42::m 43::m 44::m 45::m 46::m 47::m 48::m 49::m 50::m 51::m 52::m 53::m 54::m 55::t
abbrev sJ(B:0e0):0e1:=[(38,9e0),(39,30e0),(40,30e1),(41,.Z 58)]
def aox(P:PP)(m:4e8)(B r:0e0)(k:I)(c:K)(h:c∈11::19::jQ):125 P 34 Op ⟨qe m g3,sJ B++[(42,0 k),(43,.X (1e5::r))],[]⟩= 57 ⟨qe m g3,sJ B++[(42,0 k),(43,.X (1e5::r)),(6,1e5)],[]⟩ []:=by revert c h;show 3e1;kernel_rfl
def aoy{m:4e8}(a:∀r∈B,uC r)(n:I):∀k:I,n+k=B.U->aw 34 (.gj (.t [42,43]) (.gL (.fA B)) k Op) (qe m g3) (sJ B) (52 (qe m g3) (sJ B)):=by
 induction n with
 |i4=>
  show λk b=>NE λF=>?_;refine G (B[k]?.aj λv=>V.X [0 k,v])=_;rw[D.q4 bN];rfl
 |hG n w=>
  intro k b;have x:k<B.U:=bN;show gd (a _ (D.N1 x)) λc r e p=>?_;show yY (v:= .X [0 k,.X (1e5::r)]) (o9:=sJ B++[(42,0 k),(43,.X (1e5::r))]) (λF=>?_) (λo=>rfl) ?_ (w (k+1) bN)
  ·refine G (B[k]?.aj λv=>V.X [0 k,v])=_;rw[D.ic x,e];rfl
  ·show v9 (a3:= 24e4) (f:=λi=>i) (aox aw m B r k c p) a6 ?_;exact⟨⟨λj o h=>⟨o,h,by rw[uu]⟩,λj h=>h,λj q s s h=>h,λk2 v h=>⟨v,wb (l:=sJ B) (m:=[(42,V.y k false),(43,.X (1e5::r)),(6,1e5)]) h,by rw[n6]⟩⟩,λs s=>rfl,11e7⟩
def aoz(P:PP)(m:4e8)(B:0e0)(T:0e1):apy P 60 35 (22 440 [9e0]) ⟨qe m [],T,[397 Dw (52 os l)]⟩= .aT (.v (.X [30e0,30e1])) ⟨qe m g3,T,[]⟩ [P 34 (.gj (.t [42,43]) (.gL (.fA B)) 0 Op) (qe m g3) (sJ B) (52 (qe m g3) (sJ B))]:=av
def aoA{m:4e8}(s:∀r∈B,uC r):122 35 (22 440 [9e0]) (qe m []) T (.X [30e0,30e1]) (qe m g3) T:=iY (aoz aw m B T) (39 (aoy s B.U 0 H)) 17e5
def u0(sm:K)(B2:0e0)(bO:al):1e0:=[28e1,16 [12 0,12 37,12 74,12 111,12 148,12 185,12 222,12 259,12 296,12 333,12 370,12 407,12 444,12 481,12 518,12 555],16 [3e4,0e6,1e8,1e3],16 [0e6,0 6],16 [0e7,3e4,0e6],.bw [(.ag Z1,10e0),(.ag Z2,8 [13e5,13e6,13e7]),(.ag Z3,.Z 6),(.ag Z4,8 [0 6,10e8,16e9]),(.ag Z5,.Z 7),(.ag Z6,.Z 9),(.ag Z7,.Z 10),(.ag Z8,0e7),(.ag Z9,0e6),(.ag tw,2 (sm.ah 1000))],16 [2 54e0,362 (sm*7),0e6],16 [8 [3e4,0e6,1e8,1e3],8 [0e6,3e8]],16 [12 0,12 1,12 2,12 3,12 4,12 5,12 6,12 7],16 [.ch [13 0,13 1,13 2,13 3,13 4,13 5,13 6,13 7],.ch [120,121]],2e0,2e0]
def u1(sm:K)(B:0e0):1e0:=[.bv 373 [(167,4e0),(168,3e4),(169,16e9),(141,0 200),(170,0e6)],.bv 894 [(112,8 [.Z 24,.Z 33,.Z 26,.Z 34,.Z 28,.Z 30]),(113,8 [.Z 35,.Z 36,.Z 37]),(114,8 [.Z 41,.Z 43]),(115,8 [.Z 45,.Z 46,.Z 47,.Z 48])],.bv 873 [(66,38e4),(112,11e0)],.bv 852 [(186,.Z 14),(66,38e4),(112,8 [1e3,1e8,0e7,10e8,3e8,3e4]),(113,8 [1e3,0e7,1e8]),(114,8 [1e3]),(115,8 [1e8,0e7,3e4]),(116,.Z 20),(117,.Z 21),(187,.Z 16)],6e4,.bv 873 [(66,38e4),(112,11e0)],.bv 852 [(186,.Z 17),(66,38e4),(112,11e0),(113,11e0),(114,11e0),(115,8 [1e3]),(116,11e0),(117,11e0),(187,.Z 19)],6e4,16 [8 [3e4,0e6,1e8,1e3],8 [0e6,3e8]],16 [.ch [13 0,13 1,13 2,13 3,13 4,13 5,13 6,13 7],.ch [120,121]],.bv 1319 [(31,3e8),(196,5e7),(38,8 A6)],16 [.Z 24,.Z 26,.Z 28,.Z 30],175 (31,.X [.X [10e9],5e7]) (184,.Z 25),244 1e8,175 (31,.X [.X [12e9],5e7]) (184,.Z 27),244 1e3,175 (31,.X [.X [27e3],5e7]) (184,.Z 29),244 3e4,175 (31,.X [.X [34e7],5e7]) (184,.Z 31),244 10e8,.bv 1319 [(31,10e8),(196,5e7),(38,9e0)],.bv 754 [(31,.X [.X [34e7],5e7]),(182,27e6),(183,.Z 32)],.bv 754 [(31,.X [.X [12e9,10e9],.X [10e9]]),(182,.Z 18),(183,.Z 22)],.bv 677 [(31,34e7),(72,10e8),(169,16e9),(119,.Z 39)],.bv 677 [(31,27e3),(72,0 6),(169,16e9),(119,.Z 38)],.bv 677 [(31,27e3),(72,0e6),(169,16e9),(119,.Z 40)],16 [3e4,0e6,1e8,1e3],16 [0e6,0 6],16 [0e7,3e4,0e6],.bv 586 [(72,1e3),(167,4e0),(168,3e4),(162,.Z 42)],.eF [0,0,0,0,0,0,0,0,0,0,0,0,0,0,0,0],.bv 586 [(72,1e8),(167,4e0),(168,3e4),(162,.Z 44)],.eF (bW [0,0,0,0,0,0,0,0,0,0,0,0,0,0,0,0] (G 0) (G 16) [13 0,13 37,13 74,13 111,13 148,13 185,13 222,13 259,13 296,13 333,13 370,13 407,13 444,13 481,13 518,13 555]),254 [(31,10e9),(181,1e3),(60,362 (sm*7))],254 [(31,10e9),(181,0e7),(60,2 (sm.ah 1000))],254 [(31,12e9),(181,1e3),(60,2 54e0)],254 [(31,27e3),(181,1e3),(60,0e6)]]
def u2(apr:K):1e0:=[.bv 1188 [(105,21e7),(170,0e6),(141,23e1),(161,0e7),(229,0e7),(199,0e7),(231,10e6)],6e4]
def lS:I->Internal.S:=λi=>(qy.cX[i]?).ge .AR
def XE(x:K)(h:(l.dJ (289 (i<256)))=true):((x.ah 256::l).dJ (289 (i<256)))=true:=by
 rw[D.td,h,eE (show 0<=x.ah 256 from wl x 256 aq),eE (show x.ah 256<256 from Ol x 256 aq)];rfl
def uS1(P:PP)(S B B2:0e0)(bO:al)(sm apr:K):116 P 60 40 (185 0) [] [(93,4e5)] [297 (bT 1384) (36 9e0 [28e1] l),397 Oo (36 (2 sm) os l)]= 57 ⟨u0 sm B2 bO,[(93,4e5),(38,9e0),(98,6e3),(100,21e0)],[]⟩ [P 40 (22 1384 [4e5]) [] [(93,4e5)] (36 9e0 [28e1] [(93,4e5)]),P 39 (.x (168 97 [35e3])) [28e1] [(93,4e5)] (36 (2 sm) [28e1] [(93,4e5)]),89 0=true,89 37=true,89 74=true,89 111=true,89 148=true,89 185=true,89 222=true,89 259=true,89 296=true,89 333=true,89 370=true,89 407=true,89 444=true,89 481=true,89 518=true,89 555=true,9 sm 4294967296=true,a9 .f4 sm 7=true,361 (sm*7)=true,89 0=true,89 1=true,89 2=true,89 3=true,89 4=true,89 5=true,89 6=true,89 7=true,([((sm+0).ah 256),((sm+1).ah 256),((sm+2).ah 256),((sm+3).ah 256),((sm+4).ah 256),((sm+5).ah 256),((sm+6).ah 256),((sm+7).ah 256)].dJ (289 (i<256)))=true,9 sm 1000=true]:=av
def bS1{S B B2:0e0}{bO:al}{sm apr:K}{b:15e5}(x:122 40 (22 1384 [4e5]) [] [(93,4e5)] 9e0 [28e1] [(93,4e5)])(h2:122 39 (.x (168 97 [35e3])) [28e1] [(93,4e5)] (2 sm) [28e1] [(93,4e5)])(h:ig 40 b 0 ⟨u0 sm B2 bO,[(93,4e5),(38,9e0),(98,6e3),(100,21e0)],[]⟩ bI):ig 40 (lS 0::b) 0 ⟨[],[(93,4e5)],[297 (bT 1384) (36 9e0 [28e1] l),397 Oo (36 (2 sm) os l)]⟩ bI:=mM (by have St:=202 0 ⟨[],[(93,4e5)],[297 (bT 1384) (36 9e0 [28e1] l),397 Oo (36 (2 sm) os l)]⟩;rw[uS1 aw S B B2 bO sm apr]at St;exact St) (ac x (72 h2 H (126 H H H H (73 H H H H H H H H (126 H H H H (73 (al.tR.bn 21e5) H H H H H H H (126 H H (by repeat (first|rfl|show XE _ ?_)) H a6))))))) h
def uS2(P:PP)(S B B2:0e0)(bO:al)(sm apr:K):116 P 60 40 (185 1) (u0 sm B2 bO) [(93,4e5),(38,9e0),(98,6e3),(100,21e0)] []= 57 ⟨u0 sm B2 bO++u1 sm B,[(93,4e5),(38,9e0),(98,6e3),(100,21e0),(105,21e7),(108,27e6)],[]⟩ [bK (0<=(16:K)/\16<=16777216)=true,bK (0<=(16:K)/\16<=16777216)=true,([((sm+0).ah 256),((sm+37).ah 256),((sm+74).ah 256),((sm+111).ah 256),((sm+148).ah 256),((sm+185).ah 256),((sm+222).ah 256),((sm+259).ah 256),((sm+296).ah 256),((sm+333).ah 256),((sm+370).ah 256),((sm+407).ah 256),((sm+444).ah 256),((sm+481).ah 256),((sm+518).ah 256),((sm+555).ah 256)].dJ (289 (i<256)))=true,32<=16777216]:=av
def bS2{S B B2:0e0}{bO:al}{sm apr:K}{b:15e5}(h:ig 40 b 0 ⟨u0 sm B2 bO++u1 sm B,[(93,4e5),(38,9e0),(98,6e3),(100,21e0),(105,21e7),(108,27e6)],[]⟩ bI):ig 40 (lS 1::b) 0 ⟨(u0 sm B2 bO),[(93,4e5),(38,9e0),(98,6e3),(100,21e0)],[]⟩ bI:=mM (by have St:=202 1 ⟨(u0 sm B2 bO),[(93,4e5),(38,9e0),(98,6e3),(100,21e0)],[]⟩;rw[uS2 aw S B B2 bO sm apr]at St;exact St) (27 H H (by repeat (first|rfl|show XE _ ?_)) aq) h
def uS4(P:PP)(S B B2:0e0)(bO:al)(sm apr:K):116 P 60 40 (185 3) (u0 sm B2 bO++u1 sm B) [(93,4e5),(38,9e0),(98,6e3),(100,21e0),(105,21e7),(108,27e6),(141,23e1)] []= 57 ⟨u0 sm B2 bO++(u1 sm B++u2 apr),[(93,4e5),(38,9e0),(98,6e3),(100,21e0),(105,21e7),(108,27e6),(141,23e1),(155,.Z 49)],[]⟩ []:=av
def bS4{S B B2:0e0}{bO:al}{sm apr:K}{b:15e5}(h:ig 40 b 0 ⟨u0 sm B2 bO++(u1 sm B++u2 apr),[(93,4e5),(38,9e0),(98,6e3),(100,21e0),(105,21e7),(108,27e6),(141,23e1),(155,.Z 49)],[]⟩ bI):ig 40 (lS 3::b) 0 ⟨(u0 sm B2 bO++u1 sm B),[(93,4e5),(38,9e0),(98,6e3),(100,21e0),(105,21e7),(108,27e6),(141,23e1)],[]⟩ bI:=mM (by have St:=202 3 ⟨(u0 sm B2 bO++u1 sm B),[(93,4e5),(38,9e0),(98,6e3),(100,21e0),(105,21e7),(108,27e6),(141,23e1)],[]⟩;rw[uS4 aw S B B2 bO sm apr]at St;exact St) a6 h
def aoB{n:I}{os:1e0}(t:al)(l:D K):111 (n+1) os (264 (V.y i t))=G (l.aj ck.y):=by
 induction l with
 |aR=>rfl
 |aQ i l ih=>
  refine((111 (n+1) os (264 (V.y i t))).aj (ck.y i:: ·))=_;rw[ih];rfl
def ne_nil{os:1e0}{T:0e1}{bG:2e1}{x:K}{l:D K}:∃t,lQ .gK (6 (6e6::264 37e8)) 11e0 ⟨os,T,bG⟩=G (true,t):=by
 have h:eN 12 os (6 (6e6::264 37e8))=G (.az (ck.y x::l.aj ck.y)):=by
  refine(111 11 os ((x::l).aj 53e1)).aj ck.az=_;rw[aoB];rfl
 show⟨true,?_⟩;refine xu (pB os _ _)=_;unfold pB;rw[h];rfl
def aoC(P:PP)(O:1e0)(v1 v2 v3 v4 v5:V):116 P 60 40 (185 2) O [(93,40e8),(38,v1),(98,v2),(100,v3),(105,v4),(108,v5)] [8e9]= 20 24e4 O [(93,40e8),(38,v1),(98,v2),(100,v3),(105,v4),(108,v5),(141,3e4)] [] [∃t,lQ .gK 40e8 11e0 (198 [(93,40e8),(38,v1),(98,v2),(100,v3),(105,v4),(108,v5)] [8e9])=G (false,t)]:=av
def aoD(P:PP)(O:1e0)(S2:0e0)(x:K)(c:al)(v1 v2 v3 v4 v5:V):116 P 60 40 (185 2) O [(93,6 (6e6::S2)),(38,v1),(98,v2),(100,v3),(105,v4),(108,v5)] [33e9,.b c]= 20 24e4 O [(93,6 (6e6::S2)),(38,v1),(98,v2),(100,v3),(105,v4),(108,v5),(141,0 (if c=true then 1 else 3))] [] [∃t,lQ .gK (6 (6e6::S2)) 11e0 (198 [(93,6 (6e6::S2)),(38,v1),(98,v2),(100,v3),(105,v4),(108,v5)] [33e9,.b c])=G (true,t),9 x 5=true,((x.ah 5)==0)=c]:=by cases c<;>kernel_rfl
def bS3{hy:D K}{O:1e0}{v1 v2 v3 v4 v5:V}{b:15e5}(h:∀apr:K,(apr=1\/apr=3)->ig 40 b 0 (198 [(93,351 53e1),(38,v1),(98,v2),(100,v3),(105,v4),(108,v5),(141,23e1)] []) bI):∃o,ig 40 (lS 2::b) 0 (198 [(93,351 53e1),(38,v1),(98,v2),(100,v3),(105,v4),(108,v5)] o) bI:=by
 cases hy with
 |aR=>
  have St:=202 2 (198 [(93,40e8),(38,v1),(98,v2),(100,v3),(105,v4),(108,v5)] [8e9]);rw[aoC aw O v1 v2 v3 v4 v5]at St;exact⟨[8e9],mM St (39 ⟨true,H⟩) (h 3 21e5)⟩
 |aQ x l=>
  have St:=202 2 (198 [(93,6 (6e6::264 37e8)),(38,v1),(98,v2),(100,v3),(105,v4),(108,v5)] [33e9,.b ((x.ah 5)==0)]);rw[aoD aw O _ x _ v1 v2 v3 v4 v5]at St;show⟨[33e9,.b ((x.ah 5)==0)],mM St (130 ne_nil H H) (h _ ?_)⟩;by_cases s:((x.ah 5)==0)=true
  ·rw[eX s];exact 2e6
  ·rw[d6 s];exact 21e5
def wn(sm:K):4e9:=[13 0,13 37,13 74,13 111,13 148,13 185,13 222,13 259,13 296,13 333,13 370,13 407,13 444,13 481,13 518,13 555]
def Oq(sm s:K)(oc B B2:0e0)(bO:al):1e0:=[28e1,37 oc,37 [3e4,0e6,1e8,1e3],37 [0e6,0 6],37 [0e7,3e4,0e6],.bw [(.ag Z1,10e0),(.ag Z2,8 [13e5,13e6,13e7]),(.ag Z3,.Z 6),(.ag Z4,8 [0 6,10e8,16e9]),(.ag Z5,.Z 7),(.ag Z6,.Z 9),(.ag Z7,.Z 10),(.ag Z8,12e8),(.ag Z9,0e6),(.ag tw,2 (sm.ah 1000))],16 [2 54e0,362 (sm*7),0e6],16 [6 [3e4,0e6,1e8,1e3],6 [0e6,3e8]],16 [12 0,12 1,12 2,12 3,12 4,12 5,12 6,12 7],16 [.ch [13 0,13 1,13 2,13 3,13 4,13 5,13 6,13 7],.ch [120,121]],20e1,2e0,.bv 373 [(167,4e0),(168,3e4),(169,16e9),(141,0 200),(170,0e6)],2e0,.bv 873 [(66,38e4),(112,11e0)],2e0,6e4,.bv 873 [(66,38e4),(112,11e0)],2e0,6e4,2e0,2e0,2e0,16 [.Z 24,.Z 26,.Z 28,.Z 30],2e0,2e0,2e0,2e0,2e0,2e0,2e0,2e0,.bv 1319 [(31,10e8),(196,5e7),(38,9e0)],2e0,2e0,2e0,2e0,2e0,2e0,2e0,2e0,2e0,.eF [0,0,0,0,0,0,0,0,0,0,0,0,0,0,0,0],2e0,2e0,2e0,2e0,2e0,2e0,2e0,2e0,2e0,16 [0 9],2e0,2e0,2e0,6e4,6e4,2e0,2e0,.bv 922 [(189,0e8),(190,0e7),(191,0e7),(192,30e9)],2e0]
def mL0(sm:K)(B B2:0e0)(bO:al):1e0:=Oq sm B.U ((wn sm).aj bB) B B2 bO
def i0(sm apr:K)(B B2:0e0)(bO:al):MB:={m:=λi=>((mL0 sm B B2 bO)[i]?).ge 2e0,B:=B,e9:=sm.ah 1000,apr:=apr,aO:=wn sm,T0:=[3e4,0e6,1e8,1e3],T1:=[0e6,0 6],T2:=[0e7,3e4,0e6],c0:=54e0,c1:=(sm*7).ah 18446744073709551616,c2:= 0e6,e0:= 6 [3e4,0e6,1e8,1e3],e1:= 6 [0e6,3e8],d0:= .ch [13 0,13 1,13 2,13 3,13 4,13 5,13 6,13 7],d1:= .ch [120,121],no:=[],nl:=[],gv:=0,pk:=1,g:=[]}
def v4(sm apr:K)(B B2:0e0)(bO:al):1e0:=(28 55 [] [] 0 [] [] {i0 sm apr B B2 bO with pk:=0} []).fG 51
abbrev eb(apr:K)(S B:0e0):0e1:=[(93,4e5),(38,9e0),(98,6e3),(100,21e0),(105,21e7),(108,27e6),(141,23e1),(155,.Z 49)]
def aoE(sm:K):eI (16 [12 0,12 37,12 74,12 111,12 148,12 185,12 222,12 259,12 296,12 333,12 370,12 407,12 444,12 481,12 518,12 555])=eI (37 ((wn sm).aj bB)):=by
 have h:∀i:K,bB (279 (i.ah 256))= 2 (i.ah 256):=λi=>N5 _ (by rw[l9 _ aq];exact⟨K.nh _ aq,K.n9 _ aq⟩);have e:(wn sm).aj bB=[12 0,12 37,12 74,12 111,12 148,12 185,12 222,12 259,12 296,12 333,12 370,12 407,12 444,12 481,12 518,12 555]:=by simp only[wn,D.nX,D.map_nil,h]
 rw[e];rfl
def aoF(sm apr:K)(B B2:0e0)(bO:al):(u0 sm B2 bO++(u1 sm B++u2 apr)).aj eI=(v4 sm apr B B2 bO).aj eI:=by
 have h:∀(A s:aps) (l l':1e0) (x:aps),eI A=eI s->l.aj eI=l'.aj eI->(x::A::l).aj eI=(x::s::l').aj eI:=λA s l l' x h1 h2=>by rw[D.nX,D.nX,D.nX,D.nX,h1,h2]
 exact h _ _ ((u0 sm B2 bO++(u1 sm B++u2 apr)).fh 2) ((v4 sm apr B B2 bO).fh 2) 28e1 (aoE sm) H
def aoG:Tk->al:=λtk=>match tk with
 | .s (.lO _ _)=>true
 |_=>false
def o7(apr:K):1e0:=[.bv 1188 [(105,21e7),(170,0e6),(141,23e1),(161,12e8),(229,12e8),(199,0e7),(231,10e6)],6e4,.bv 1293 [(155,.Z 49),(105,21e7),(199,0e7),(132,.Z 55),(200,.Z 53),(201,30e9)],16 [0 9],2e0,2e0,2e0]
def zm(sm apr:K)(B B2:0e0)(bO:al)(t:1e0):1e0:=(28 55 [] [] 0 [] [] 18e2 []).fG 49++(o7 apr++t)
def w13(apr:K)(B:0e0):1e0:=[.bv 1188 [(105,21e7),(170,0e6),(141,23e1),(161,12e8),(229,2 1),(199,0e7),(231,10e6)],.bw [(1e3,.X [30e0,30e1])],.bv 1293 [(155,.Z 49),(105,21e7),(199,0e7),(132,.Z 55),(200,.Z 53),(201,30e9)],16 [0 9],16 [3e7],2e0,2e0,6e4,6e4,2e0,.bv 957 [(126,1e3),(182,27e6),(38,9e0),(190,0e7),(39,30e0),(40,30e1),(196,6 [0 9]),(195,0e7),(42,0e7),(197,.Z 61)],.bv 922 [(189,2 (B.U:K)),(190,0e7),(191,0e7),(192,30e9)],16 [6e0]]
def stW(sm apr:K)(B B2:0e0)(bO:al):1e0:=(28 55 [] [] 0 [] [] 18e2 []).fG 49++w13 apr B
abbrev sK(bI:fj):2e1:=[397 (bT 440) (36 (.X [30e0,30e1]) (os++g3) l),.ed aoG λs s s=>bI]
abbrev Dx(P:PP)(sm apr:K)(B B2:0e0)(bO:al)(bI:fj):6e1:=[1<=16777216,P 35 (22 440 [9e0]) (zm sm apr B B2 bO []) [(164,.Z 49),(126,1e3)] (36 (.X [30e0,30e1]) (zm sm apr B B2 bO []++g3) [(164,.Z 49),(126,1e3)]),P 38 (.s (.lO rT my)) (stW sm apr B B2 bO) [(164,7e9),(9,0e6),(203,0e7)] bI]
def aoH(P:PP)(S B B2:0e0)(bO:al)(sm apr:K)(x:apr=1\/apr=3)(b:MB)(h:5e6)(k c:K)(s:0e0):apy P 60 40 (185 4) ⟨v4 sm apr B B2 bO,10e5,sK (52 (28 55 h [] k s [] b []) (dK c))⟩= 57 (88 (28 55 h [] k s [] b []) (157,.X [28e9,5e7]) []) (Dx P sm apr B B2 bO (52 (28 55 h [] k s [] b []) (dK c))):=by rcases x with H|rfl<;>kernel_rfl
def aoI(P:PP)(S B B2:0e0)(bO:al)(sm apr:K)(a:apr=1\/apr=3)(b:MB)(s:5e6)(k c:K)(h x:0e0)(apw:aps)(E:1e0)(hX:apw= .au []\/apw= 20e1)(e:E=[]\/E=jq):apy P 60 40 (185 4) ⟨v4 sm apr B B2 bO,10e5,sK (52 (28 62 s [] k h x b (apw::E)) (dK c))⟩= 57 (88 (28 62 s [] k h x b (apw::E)) (157,.X [28e9,5e7]) []) (Dx P sm apr B B2 bO (52 (28 62 s [] k h x b (apw::E)) (dK c))):=by rcases a with H|rfl<;>rcases hX with H|rfl<;>rcases e with H|rfl<;>kernel_rfl
def aoJ(P:PP)(S B B2:0e0)(bO:al)(sm apr:K)(s:apr=1\/apr=3)(sh:Sh)(hs:15e0)(b:MB)(k:K)(au:0e0)(z:am):apy P 60 40 (185 4) ⟨v4 sm apr B B2 bO,10e5,sK (205 (b1 sh b k []).U b k au 51 [(58,7e8)] [])⟩= 57 (88 (138 b k au 51 [(58,7e8)]) (157,.X [.ag rJ,7e8]) []) (Dx P sm apr B B2 bO (205 (b1 sh b k []).U b k au 51 [(58,7e8)] [])):=by rcases s with H|rfl<;>rcases hs with H|rfl|rfl<;>kernel_rfl
def aoK(P:PP)(S B B2:0e0)(bO:al)(sm apr:K)(s:apr=1\/apr=3)(sh:Sh)(hs:15e0)(b:MB)(k:K)(au:0e0):apy P 60 40 (185 4) ⟨v4 sm apr B B2 bO,10e5,sK (205 (b1 sh b k []).U b k au 63 [(58,14e5)] [])⟩= 57 (88 (138 b k au 63 [(58,14e5)]) (157,.X [25e3,14e5]) []) (Dx P sm apr B B2 bO (205 (b1 sh b k []).U b k au 63 [(58,14e5)] [])):=by rcases s with H|rfl<;>rcases hs with H|rfl|rfl<;>kernel_rfl
def z16:4e9:=[0,0,0,0,0,0,0,0,0,0,0,0,0,0,0,0]
def j3(b:MB)(a:aI):1e0:=[b.m 0,b.m 1,b.m 2,b.m 3,b.m 4,b.m 5,b.m 6,b.m 7,b.m 8,b.m 9,b.m 10,37 b.no,b.m 12,.bv 894 [(112,8 [.Z 24,.Z 33,.Z 26,.Z 34,.Z 28,.Z 30]),(113,8 [.Z 35,.Z 36,.Z 37]),(114,8 [.Z 41,.Z 43]),(115,8 [.Z 45,.Z 46,.Z 47,.Z 48])],b.m 14,.bv 852 [(186,.Z 14),(66,38e4),(112,8 [1e3,1e8,0e7,10e8,3e8,3e4]),(113,8 [1e3,0e7,1e8]),(114,8 [1e3]),(115,8 [1e8,0e7,3e4]),(116,.Z 20),(117,.Z 21),(187,.Z 16)],b.m 16,b.m 17,.bv 852 [(186,.Z 17),(66,38e4),(112,11e0),(113,11e0),(114,11e0),(115,8 [1e3]),(116,11e0),(117,11e0),(187,.Z 19)],b.m 19,16 [b.e0,b.e1],16 [b.d0,b.d1],.bv 1319 [(31,3e8),(196,5e7),(38,8 A6)],b.m 23,175 (31,.X [.X [10e9],5e7]) (184,.Z 25),244 1e8,175 (31,.X [.X [12e9],5e7]) (184,.Z 27),244 1e3,175 (31,.X [.X [27e3],5e7]) (184,.Z 29),244 3e4,175 (31,.X [.X [34e7],5e7]) (184,.Z 31),244 10e8,b.m 32,.bv 754 [(31,.X [.X [34e7],5e7]),(182,27e6),(183,.Z 32)],.bv 754 [(31,.X [.X [12e9,10e9],.X [10e9]]),(182,.Z 18),(183,.Z 22)],.bv 677 [(31,34e7),(72,10e8),(169,16e9),(119,.Z 39)],.bv 677 [(31,27e3),(72,0 6),(169,16e9),(119,.Z 38)],.bv 677 [(31,27e3),(72,0e6),(169,16e9),(119,.Z 40)],37 b.T0,37 b.T1,37 b.T2,.bv 586 [(72,1e3),(167,4e0),(168,3e4),(162,.Z 42)],.eF z16,.bv 586 [(72,1e8),(167,4e0),(168,3e4),(162,.Z 44)],.eF b.aO,254 [(31,10e9),(181,1e3),(60,31e2)],254 [(31,10e9),(181,0e7),(60,33e7)],254 [(31,12e9),(181,1e3),(60,31e3)],254 [(31,27e3),(181,1e3),(60,b.c2)],.bv 1188 [(105,21e7),(170,0e6),(141,49e0),(161,2 b.gv),(229,2 b.pk),(199,0e7),(231,26e0)]]
def fA(n:I)(f:I->I):Prop:=∀j,j<n->f j=j
def aoL(b:MB)(a:aI)(apu f:I->I)(e:(λj=>cC (I.jN j 50) j (apu j))=f):(j3 b a).aj (f9 f)=j3 (b.o8 f) a:=by
 subst e;kernel_rfl
def XF(hm:∀i f,fA 50 f->f9 f 30e2=30e2)(h:l5 b){f:I->I}(s:fA 50 f):(j3 b a).aj (f9 f)=j3 b a:=(aoL b a f f (NN 50 s)).aV (bC (j3 · a) (MB.Wu h λi=>hm i f s))
def aoM(b:MB):MB:={b with m:=λi=>141 i 42 (.eF z16) 30e2}
def aoN(h:b.m 42= .eF z16):aoM b=b:=bC (λm=>{b with m:=m}) (funext λi=>by
 cases e:I.bY i 42 with
 |true=>rw[I.fZ e,h];rfl
 |false=>rfl)
def mc{d apC:I}{b:15e5}{O:1e0}{T:0e1}{o1 o2:2e1}(h:ig d b apC 29e4 bI):ig d b apC (62 o2) bI:=
 λk sc B p x J aC h0 s Q EE Y e hz a r m apv P=>h k sc B p x J aC h0 s Q EE Y e hz a r (gP m) apv P
def setO_tk(O:1e0)(j:I)(x:aps)(h:j<O.U):(mu O j x).fG (j+1)=O.fG j++[x]:=by
 induction O generalizing j with
 |aR=>exact bM h (I.Lb _)
 |aQ o l ih=>
  cases j with
  |i4=>rfl
  |hG j=>exact bC (D.aQ o) (ih j (I.RI h))
def Dy(hm:∀i f,fA 50 f->f9 f 30e2=30e2)(x:b.m 42= .eF z16)(q:l5 b){S:I}{m:5e6}{fr w l:0e0}{k:K}{p:al}{aD:1e0}{T:0e1}{bG:2e1}{F:15e5}(r:∀k v,19e1=2e5->∀f,fA 50 f->15e3=v)(h:∀a,ig 40 F 0 ⟨j3 b a,T,[]⟩ bI):ig 40 F 0 ⟨dE S m fr k w l p b aD,T,bG⟩ bI:=by
 show aj8 (i:=50) (j:=49) (n:=231) H H λa=>?_;have s:∀n,fA 50 (gm (D.dS 50) n):=λn j u=>by
  unfold gm;rw[D.ut u];rfl
 show yW (gb.sE (fV:=D.dS 50) (eV:=j3 b a) (hP:=T) ?_ D.WV (λk v e=>⟨v,e,by rw[r k v e _ (s _)]⟩) H) λbG=>mc (h a);generalize D.U _=n;rw[C3,XF hm q (s n),<-aoN x];kernel_rfl
def XG{l:1e0}{f:I->I}(h:l.aj (f9 f)=l)(i:I):f9 f ((l[i]?).ge 2e0)=(l[i]?).ge 2e0:=by
 have e:=bC (·[i]?) h;simp only[D.nY]at e;cases q:l[i]? with
 |L=>rfl
 |G o=>rw[q]at e;exact 11e6
def aoO(sm s:K)(oc B B2:0e0)(bO:al)(apu f:I->I)(e:(λj=>cC (I.jN j 50) j (apu j))=f):(Oq sm s oc B B2 bO).aj (f9 f)=Oq sm s (bQ f oc) (bQ f B) (bQ f B2) bO:=by
 subst e;kernel_rfl
def aoP(s:21 B B)(x:21 B2 B2){f:I->I}(h:fA 50 f):(mL0 sm B B2 bO).aj (f9 f)=mL0 sm B B2 bO:=by
 have e:=aoO sm B.U ((wn sm).aj bB) B B2 bO f f (NN 50 h);rw[s,x,og]at e;exact e
section
variable{sm apr:K}{B B2:D V}{bO:al}
def aoQ(s:21 B B)(x:21 B2 B2):∀i f,fA 50 f->f9 f ((18e2).m i)=(18e2).m i:=λi f h=>XG (aoP s x h) i
def sL(h:0<=n/\n<6):KV .rf (0 n):= 247 n H h
def aoR(a:apr=1\/apr=3)(e:∀f,bQ f B=B)(s:B.U<=1000):c8 (i0 sm apr B B2 bO) 0 []where
 aO:= .a4 H
 T0:=⟨mE (sL aq) (mE (.a4 H) (mE (sL aq) (mE (sL aq) mN))),by refine 4<=6;decide⟩
 T1:=⟨mE (.a4 H) (mE (.aE ⟨_,H⟩) mN),by refine 2<=4;decide⟩
 T2:=⟨mE (sL aq) (mE (sL aq) (mE (.a4 H) mN)),by refine 3<=7;decide⟩
 c0:=by refine 0<=sm.ah 4294967296/\sm.ah 4294967296<4294967296;rw[l9 _ aq];exact⟨K.nh _ aq,K.n9 _ aq⟩
 c1:=by refine 0<=(sm*7).ah 18446744073709551616/\(sm*7).ah 18446744073709551616<18446744073709551616;rw[l9 _ aq];exact⟨K.nh _ aq,K.n9 _ aq⟩
 c2:= .a4 H
 e0:= .aE ⟨_,H,mE (sL aq) (mE (.a4 H) (mE (sL aq) (mE (sL aq) mN))),H⟩
 e1:= .aE ⟨_,H,mE (.a4 H) (mE (.aE ⟨_,H⟩) mN),H⟩
 d0:= .aE ⟨_,H,H⟩
 d1:= .aE ⟨_,H,H⟩
 no:=H
 nl:=H
 ns:=⟨λp x=>(nomatch x),I.eC _⟩
 e9:=by refine 0<=sm.ah 1000/\sm.ah 1000<1000;rw[l9 _ aq];exact⟨K.nh _ aq,K.n9 _ aq⟩
 apr:=a
 g:=λv h=>nomatch h
 B:=⟨e,s⟩
universe e
def zn(s:V):Prop:=(∀f,71 s=s)/\∀os,∃d,eN 12 os s=G d/\d.ju=true
def XH(hs:ck.rL s=true)(hz:ck.rL z=true):zn (.X [.ag s,7e8]):=by
 show⟨λf=>rfl,λos=>⟨.qz [.ag s,7e8],?_,?_⟩⟩
 ·refine(111 11 os [.ag s,7e8]).aj ck.qz=_;have h1:eN 11 os (.ag s)=G (.ag s):=by
   refine(match ck.rL s with|true=>G (ck.ag s)|false=>L)=_;rw[hs]
  have h2:eN 11 os 7e8=G 7e8:=by
   refine(match ck.rL z with|true=>G (ck.ag z)|false=>L)=_;rw[hz]
  refine((eN 11 os (.ag s)).cr λd=>((eN 11 os 7e8).cr λd=>G [d]).aj (d:: ·)).aj ck.qz=_;rw[h1,h2];rfl
 ·simp only[ck.ju,ck.qN,hs,hz,al.te]
def Dz:zn (.X [28e9,5e7]):=⟨λf=>rfl,λos=>⟨.qz [28e9,.qz []],av,av⟩⟩
section
variable{S B B2:D V}{bO:al}{sm apr:K}
def aoS:(stW sm apr B B2 bO).aj eI=(i8 .a 18e2 (0:I) []).aj eI:=H
def aoT{apu:K->fj}(h:MC .a 18e2 0 [] apu):aw 38 (.s (.lO rT my)) (stW sm apr B B2 bO) [(164,7e9),(9,0e6),(203,0e7)] (apu 0):=by
 show aos (ok:=i8 .a 18e2 (0:I) []) (mH:=dK 0) aoS (λk v e=>?_) (aj2 λo1 o2=>NO (h 0 o2));have hm:=iW e;simp only[dK,D.eR,kC.mk.fu,D.mn,mo]at hm;rcases hm with⟨H,H⟩|⟨H,H⟩|⟨H,H⟩
 ·exact(51 H)
 ·exact(51 H)
 ·exact(51 H)
def aoU(s:∀r∈B,uC r):122 35 (22 440 [9e0]) (zm sm apr B B2 bO []) T (.X [30e0,30e1]) (zm sm apr B B2 bO []++g3) T:=aoA (m:=λi=>((zm sm apr B B2 bO [])[i]?).ge 2e0) s
def zo(a:21 S S)(h:21 B B)(x:∀f,71 gn=gn):∀k v,19 (10e5++[(157,gn)])=2e5->∀f,fA 50 f->15e3=v:=by
 intro k v e f s;have hm:=iW e;clear e;simp only[eb,D.NS,D.uR,D.eR,kC.mk.fu,D.mn,mo]at hm;rcases hm with⟨_,H⟩|⟨_,H⟩|⟨_,H⟩|⟨_,H⟩|⟨_,H⟩|⟨_,H⟩|⟨_,H⟩|⟨_,H⟩|⟨_,H⟩
 ·exact bC (V.ad · _) (a _)
 ·exact bC (V.ad · _) (h _)
 ·exact bC V.Z (s 5 aq)
 ·exact bC V.Z (s 11 aq)
 ·exact bC V.Z (s 13 aq)
 ·exact bC V.Z (s 15 aq)
 ·rfl
 ·exact bC V.Z (s 49 aq)
 ·exact x f
def bS5(u:apr=1\/apr=3)(apF:qd B [])(apy:∀r∈B,uC r)(apB:B.U<=1000)(n:21 B B)(apC:21 B2 B2)(app:21 S S){F:15e5}
  (h:∀m en cB x apq R a,zn m->l5 x->(∀i f,fA 50 f->f9 f (x.m i)=x.m i)->(∀f,41e1=en)->(∀f,bQ f cB=cB)->c8 x apq R->x.m=(18e2).m->x.e9=(18e2).e9->x.apr=apr->
   (∀mL,kr 51 mL->LC (182 18e2) 0 [] (.Y (105 m) (dc (182 x) (x.aO.aj bB) en cB) (b2 18e2)))->
   ig 40 F 0 (88 (j3 x a) (157,m) []) bI):∃o,ig 40 (lS 4::F) 0 ⟨v4 sm apr B B2 bO,10e5,o⟩ bI:=by
 have hm:=aoQ (sm:=sm) (apr:=apr) (bO:=bO) n apC;have apD:kr 62 (18e2).m:=λi f apA=>hm i f λj apt=>apA j (I.yq apt aq);have apx:=aoR (sm:=sm) (B2:=B2) (bO:=bO) u n apB;obtain(⟨apu,m,en,cB,x,apq,R,A,W,apz,apE,e1,e2,e3,e4,e5,apH⟩):=apF (mL:=λV=> 2e0) (sh:= .a) (b:=18e2) (b0:=18e2) (k:=0) (ns:=[]) (au:=[]) apx apD (λV V V=>rfl) 2e6 H ⟨H,H,H,H⟩ d2;have l:∀i f,fA 50 f->f9 f (x.m i)=x.m i:=λi f apA=>by rw[e1];exact hm i f apA
 have w:l5 x:=apE.we (by rw[e1];exact apD);have d:x.m 42= .eF z16:=by rw[e1];rfl
 have v:=aoT (bO:=bO) (B2:=B2) (sm:=sm) (apr:=apr) (B:=B) A;clear A;have P:=aoU (sm:=sm) (apr:=apr) (B2:=B2) (bO:=bO) apy (T:=[(164,.Z 49),(126,1e3)]);have cR:zn m->∀a,ig 40 F 0 (88 (j3 x a) (157,m) []) bI:=λp a=>h m en cB x apq R a p w l e5 apH apE e1 e3 (e4.aV H) W;clear W;obtain(⟨e,aps,g,k,t,C,aD,c,H,q⟩|⟨z,e,hz,sh,k,au,h3,H⟩|⟨e,sh,k,au,h3,H⟩):=apz
 ·subst e;rcases q with⟨H,H,H⟩|⟨H,apw,E,hX,apv,H⟩
  ·have St:=202 4 ⟨v4 sm apr B B2 bO,10e5,sK (52 (28 55 g [] k t [] x []) (dK (0+c)))⟩;rw[aoH aw S B B2 bO sm apr u x g k (0+c) t]at St;exact⟨_,mM St (130 aq P v) (Dy l d w (zo app n Dz.1) (cR Dz))⟩
  ·have St:=202 4 ⟨v4 sm apr B B2 bO,10e5,sK (52 (28 62 g [] k t C x (apw::E)) (dK (0+c)))⟩;rw[aoI aw S B B2 bO sm apr u x g k (0+c) t C apw E hX apv]at St;exact⟨_,mM St (130 aq P v) (Dy l d w (zo app n Dz.1) (cR Dz))⟩
 ·subst e;have p:=XH (s:=rJ) av hz;have St:=202 4 ⟨v4 sm apr B B2 bO,10e5,sK (205 (b1 sh x k []).U x k au 51 [(58,7e8)] [])⟩;rw[aoJ aw S B B2 bO sm apr u sh h3 x k au z]at St;show⟨_,mM St (130 aq P v) ?_⟩;rcases h3 with H|rfl|rfl<;>exact Dy l d w (zo app n p.1) (cR p)
 ·subst e;have p:=XH (s:=j9) (z:=h7) av av;have St:=202 4 ⟨v4 sm apr B B2 bO,10e5,sK (205 (b1 sh x k []).U x k au 63 [(58,14e5)] [])⟩;rw[aoK aw S B B2 bO sm apr u sh h3 x k au]at St;show⟨_,mM St (130 aq P v) ?_⟩;clear v St;rcases h3 with H|rfl|rfl<;>exact Dy l d w (zo app n p.1) (cR p)
universe e
def wo(b:MB)(a:aI):4e8:=λi=>((j3 b a)[i]?).ge 2e0
def c9(b:MB)(a:aI)(en:V)(s:0e0):1e0:=dc (lw (wo b a) b) 4e2 en s
abbrev qq(op:jl)(x app:V)(O:1e0)(T:0e1)(o:2e1)(c:al):Prop:=∃t,lQ op x app (62 o)=G (c,t)
def uS6(P:PP)(b:MB)(a:aI)(S B:0e0)(apr:K)(s en:V)(h:0e0):apy P 60 40 (185 5) (88 (j3 b a) (157,s) [261 1455 s 21e9,8e9,8e9,8e9])= 57 (88 21e9 (157,s) []) [P 40 (22 1455 [6e3,9e0,23e1]) (j3 b a) (10e5++[(157,s)]) (36 s 21e9 (10e5++[(157,s)])),qq .gK (s) (s) 21e9 (10e5++[(157,s)]) [8e9,8e9,8e9] false,qq .gK (2 b.gv) (2 b.gv) 21e9 (10e5++[(157,s)]) [8e9,8e9] false,qq .gK 21e0 (.Z 10) 21e9 (10e5++[(157,s)]) [8e9] false]:=av
def uS7(P:PP)(b:MB)(a:aI)(S B:0e0)(apr:K)(s en:V)(h:0e0):apy P 60 40 (185 6) (88 21e9 (157,s) [8e9])= 57 ⟨21e9++[16 [6 b.T0,6 b.T1,6 b.T2]],10e5++[(157,s)],[]⟩ [b.T0.U<=16777216,b.T1.U<=16777216,b.T2.U<=16777216,qq .gK 7e9 (8 [13e5,13e6,13e7]) (21e9++[16 [6 b.T0,6 b.T1,6 b.T2]]) (10e5++[(157,s)]) [8e9] false]:=av
def uS8(P:PP)(b:MB)(a:aI)(S B:0e0)(apr:K)(s en:V)(h:0e0):apy P 60 40 (185 7) (88 21e9 (157,s) [8e9,8e9])= 57 (88 21e9 (157,s) []) [qq .gK (6 4e2) 10e0 21e9 (10e5++[(157,s)]) [8e9,8e9] false,qq .gK (6 [12e8,12e8,12e8,12e8,12e8,12e8,12e8,12e8,12e8,12e8,12e8,12e8,12e8,12e8,12e8,12e8]) (8 [0e7,0e7,0e7,0e7,0e7,0e7,0e7,0e7,0e7,0e7,0e7,0e7,0e7,0e7,0e7,0e7]) 21e9 (10e5++[(157,s)]) [8e9] false]:=av
def aoV(P:PP)(b:MB)(a:aI)(S B:0e0)(apr:K)(s en:V)(h:0e0):apy P 60 40 (185 8) (88 (231 44e9 h) (157,s) [8e9])= 57 ⟨231 44e9 h++[16 [31e2,33e7,31e3,0e6]],10e5++[(157,s)],[]⟩ [qq .gK 7e9 (8 [31e2,33e7,31e3,0e6]) (231 44e9 h++[16 [31e2,33e7,31e3,0e6]]) (10e5++[(157,s)]) [8e9] false]:=av
def aoW(P:PP)(b:MB)(a:aI)(S B:0e0)(apr:K)(s en:V)(h:0e0)(n:K):apy P 60 40 (185 8) (88 (231 (337 n) h) (157,s) [8e9])= 57 ⟨231 (337 n) h++[16 [31e2,33e7,31e3,0 n]],10e5++[(157,s)],[]⟩ [qq .gK 7e9 (8 [31e2,33e7,31e3,0 n]) (231 (337 n) h++[16 [31e2,33e7,31e3,0 n]]) (10e5++[(157,s)]) [8e9] false]:=av
def aoX(P:PP)(b:MB)(a:aI)(S B:0e0)(apr:K)(s en:V)(h:0e0):125 P 40 [lS 9] (88 21e9 (157,s) [33e9,33e9])= .aT 45e6 (88 21e9 (157,s) []) [qq .Eq (.Z 20) (.Z 7) 21e9 (10e5++[(157,s)]) [33e9,33e9] true,qq .Eq (.Z 21) (.Z 9) 21e9 (10e5++[(157,s)]) [33e9] true]:=av
def aoY(P:PP)(b:MB)(a:aI)(B:0e0)(apr:K)(s:V)(T x:0e1)(mm:1e0):apy P 60 40 (22 1455 [6e3,9e0,23e1]) ⟨j3 b a,T,[.ed Dw λh h h=> .Y (105 s) mm x]⟩= 92 s mm [P 39 (.gj (.n 131) (356 B) 0 qG) (j3 b a++[2e0]) [(98,6e3),(38,9e0),(141,23e1),(132,10e6)] (.Y (105 s) mm x)]:=av
def aoZ:qy.cX=[lS 0,lS 1,lS 2,lS 3,lS 4,lS 5,lS 6,lS 7,lS 8,lS 9]:=av
set_option backward.match.sparseCases true
def XI:Prop:=∀hy:D K,hy.U<=63->∃t,ig 40 qy.cX 0 ⟨[],[(93,351 48e1)],[]⟩ (20 (105 (.bp true t)) [] [] [] [])
inductive ao0 (bc:gR) (w:eA) (t:b5 ky) (s:ae) (R:md->ae->Prop):Prop
 |mk (n:I) (r:md) (s' XJ:ae) (a:schedN (rr lJ) bc w n (.Uh s ⟨t,.bJ "claim.caller" {},nt,[]⟩)= .halted (Os r) s') (b:runN (rr lJ) bc w n s ⟨t,.bJ "claim.caller" {},nt,[]⟩= .halted (Os r) s') (c:s'.forget=XJ.forget) (d:R r XJ)
def ao1{R:44e2}(p:s.Jz)
  (h:134 mP t (λeg s'=>∃f,eg= .kx f/\(218 f s'/\Ot s'.dD=false)) (λe s'=>R (.dI e) s'/\Ot s'.dD=false) s):
  ao0 bc w t s R:=by
 have a:b5.wp 6e2 ⟨.bJ "claim.caller" {},L,L,[],L⟩ t (b5.finPost 6e2 ⟨.bJ "claim.caller" {},L,L,[],L⟩ λr s'=>R r s'/\Ot s'.dD=false) (λe x s'=>R (.dI e) s'/\Ot s'.dD=false) nt s:=by
  show b5.zu _ _ t (λeg l s' h'=>?_) 56e4 nt s (h _ nt caller_in H λc j=>nomatch j);(show aN h' λf m v=>?_;try clear h';subst m);exact v
 show qg (wp_halts_full (apB:=6e2) (R:=R) p a) λn r k u hs i q b=>?_;exact⟨n,r,u,k,hs,i,q,b⟩
def iCF{α β γ δ ε:Type}{P:17e7}{Q R:α->β->γ->δ->ε->Prop}(a:α)(b:β)(c:γ)(d:δ)(e:ε)(p:P a b)(q:Q a b c d e)(r:R a b c d e):∃a b,P a b/\∃c d e,Q a b c d e/\R a b c d e:=⟨a,b,p,c,d,e,q,r⟩
def ao2{c:ClaimW}{tree:2e4->b5 ky}{w:eA}{s:ae}{eG:153 aI}{dD:Prop}{il:153 ai}(hz:s.Jz)(apx:s.dD= #[])
  (ao3:∀p,c.pre p=true->wq.XK p=true->∀sM:26e2->26e2,(∀l,(sM l).qw l)->
   ∃vs a,layAllW c.XL (zp s.M) w.bV sM p s=G (vs,a)/\
    aM (bh c.bc w) mP (tree vs) (λeg s'=>∃f,eg= .kx f/\(c.Ends s p vs a (.Y f) s'/\s'.os=s.os/\AllBare s'.dD/\il s'.M))
     (λe s'=>c.Ends s p vs a (.dI e) s'/\s'.os=s.os/\AllBare s'.dD/\il s'.M) a):
  c.CallFrom (λvs=>⟨tree vs,.bJ "claim.caller" {},nt,[]⟩) w eG dD il s:=by
 intro p A apE sM C;show Internal.XT λapF apr=>gd (ao3 p A apE sM C) λvs a P B=>?_;have V:=ao4 _ _ _ P;obtain(⟨k,r,s',apy,S,apA,apz,g,apu,apw⟩):=ao1 (bc:=c.bc) (w:=w) (t:=tree vs) (s:=a)
  (R:=λr s'=>c.Ends s p vs a r s'/\s'.os=s.os/\il s'.M) (ae.Pn V.2.2.2 hz)
  (eW B ((by rintro eg s' ⟨f,e,h1,h2,h3,d⟩;exact⟨f,e,⟨h1,h2,d⟩,ao5 h3⟩)) (by rintro e s' ⟨h1,h2,h3,d⟩;exact⟨⟨h1,h2,d⟩,ao5 h3⟩))
 show zq (ae.forget_eq apz) λapq m m E m=>?_;have g:=g.congr apq;have apD:s'.M.sW=s.M.sW:=(runN_life _ _ _ apA).aV V.2.2.2;clear apA;show apr (iCF vs a k _ s' P S ⟨?_,λm i x W=>by rw[apx]at W;simp at W,apq▸apw,by rw[apD],ae.rest_eq (E▸apu)⟩);clear S;exact g.ak (λh=>oE h λv h=>zr h λu d1 n j q z=> .a4 ⟨v,bC Os u,d1,n,j,λb o app m=>q b o app,z⟩)
  λh=>sP h λe ob bj u d1 n j q z=> .aE ⟨e,ob,bj,bC Os u,d1,n,j,q,λb o app m=>z b o app⟩
def holds_R(said:rC.zs=true)(aX:∀(w:eA) (s₀ a:ae),g9 a.M 40e1->kB.n1<=a.M.O.an->∀(b:D wq) (vs:2e4) (as:11e9),
   jH.re.pre b=true->wq.XK b=true->Laid [] w s₀ a b vs as->
    aM (bh pw w) mP (PySem.aX (.N 1467) vs) (λv s'=>Ou jH.re (zp s₀.M) 54e8 b a (.Y (.bk v)) s')
     (λe s'=>Ou jH.re (zp s₀.M) 54e8 b a (.dI e) s') a):rC.Holds:=by
 have k1:rC.bx.zs=true:=by
  unfold OD.zs at said;simp only[al.lb]at said;repeat (first|exact said|replace said:=said.1)
 have i:jH.promised:=⟨[.az []],av,av⟩;have C:jH.bc.kb:=⟨H,H,H,H,H,av⟩;have Y:(opensWell jH.bc&&(frees jH&&jH.within.jL))=true:=av;show oA (al.mB.mp Y) λo1 k5=>?_;show oA (al.mB.mp k5) λk5 A=>?_;show zq (frees_parts k5) λt B apx apr hm=>?_;show⟨said,k1,i,⟨C,o1,cI⟩,i.witness,λw=>⟨(Pm w).1,λs' apD=>?_⟩⟩;(show gD ((Pm w).2 s' apD) λs₀ W V s f=>?_;show zq f λapz hz app u Q=>?_;try clear f);have apu:g9 s.M (KL w.bV):=λp r=>u p (At _ p r);have hg:=pg apu;show⟨s₀,W,V,s,apz,λn apv=>?_,λx m=>(nomatch m),λx m=>(nomatch m),?_⟩
 ·have:n=51e7 :=by
   have h1:n∈ [51e7]:=apv;simpa using h1
  subst bb;exact abx apu
 ·show ao2 (c:=jH.re) hz app λb l j sM d=>?_;(show oE (ar.mT.mp (layAllW_isSome (R:=[]) (cl:=zp s.M) (gJ:=λc apE=>nomatch apE) (P:=w.bV) (sM:=sM) b jH.pm s (pre_splitW l).1)) λE k=>?_;obtain⟨vs,a⟩:=E);have eH:=layAllW_keeps _ _ _ k;have o:=ao4 _ _ _ k;show dV (reads_layAllW d _ _ _ k j a.M (λapF apF e=>e)) λas apw apB apC=>?_;have apt:Laid [] w s a b vs as:=⟨⟨sM,d,k⟩,apw,apB,apC,eH,o.1.aV app,o.2.2.1⟩;have aps:kB.n1<=a.M.O.an:=by
   have h1:=u (1467,uN w.bV) (by
    have:((40e1).nv (352 1467))=G (1467,uN w.bV):=av
    exact D.uP bb)
   have:=ai.cQ (eH _ _ h1);have e:kB.n1=1468:=av;rw[e];exact bb
  have h:=aX w s a (λp r=>eH _ _ (u p r)) aps b vs as l j apt;have apq:=ident_freeW B apx apr;have S:jH.re.within=[]:=D.isEmpty_iff.mp A;have apy:a.M.jG iB 51e7=47 1467:=by
   unfold ai.jG;rw[k3 (P:=w.bV) λp r=>eH _ _ (apu p r)];kernel_rfl
  have apA:a.M.Ns iB (a.M.jG iB):= .vB (pg (P:=w.bV) λp r=>eH _ _ (apu p r));show⟨vs,a,k,?_⟩;show 164 (yc (gf:=51e7) apA ?_);rw[apy];show aZ (eW h (λv s' g=>bH ⟨_,H,?_⟩) λe s' g=>?_)
  ·have z:=g.laid (c:=jH.re) t S apq apt;exact⟨z.1,z.2.1,z.2.2,λq=>by cases q⟩
  ·have z:=g.laid (c:=jH.re) t S apq apt;exact⟨z.1,z.2.1,z.2.2,λq=>by cases q⟩
set_option backward.match.sparseCases false
def wt{a b:V}{os:1e0}{T:0e1}{o:2e1}(s:eN 12 os a=G d)(x:eN 12 os b=G d)(h:d.ju=true):qq .gK a b os T o false:=by
 show⟨qA 12 os a||qA 12 os b,?_⟩
 ·refine xu (pB os a b)=_;unfold pB;rw[s,x];refine G (!(ck.eqv d d),_)=_;rw[eqv_refl d h];rfl
def ao6{a b:V}{os:1e0}{T:0e1}{o:2e1}(s:eN 12 os a=G d)(x:eN 12 os b=G d)(h:d.ju=true):qq .Eq a b os T o true:=by
 show⟨qA 12 os a||qA 12 os b,?_⟩
 ·refine vEq os a b=_;unfold vEq pB;rw[s,x];refine G (ck.eqv d d,_)=_;rw[eqv_refl d h]
def XM{n:I}{os:1e0}{v:V}(h:KV .x v):∃d,eN (n+1) os v=G d/\d.ju=true:=by
 rcases h with H|⟨i,t,H⟩
 ·exact⟨.L,H,H⟩
 ·exact⟨.y i,H,H⟩
def mQ{f:V->ar ck}(h:f v=G d)(g:h8 f l=G ds):h8 f (v::l)=G (d::ds):=by
 refine((f v).cr λd=>(h8 f l).aj (d:: ·))=_;rw[h,g];rfl
def ol{f:D ck->ck}(h:o=G ds):o.aj f=G (f ds):=by rw[h];rfl
def Ox{n i:I}{os:1e0}{l:0e0}{ds:D ck}(h:os[i]? =0e4)(hs:o.sq=G l)(g:111 n os l=G ds):eN (n+1) os 15e9=G (.az ds):=by
 refine((os[i]?.cr aps.sq).cr λl=>(111 n os l).aj ck.az)=G (ck.az ds);rw[h];refine((aps.sq o).cr _)=_;rw[hs];exact ol g
def wu{n:I}{os:1e0}{l:0e0}:eJ q l->∃ds,111 (n+1) os l=G ds/\ck.qN ds=true:=by
 induction l with
 |aR=>exact λx=>⟨[],H,H⟩
 |aQ v l ih=>
  intro h;show aN (XM (n:=n) (os:=os) (h v (D.dQ ..)).x) λd e1 e2=>?_;show aN (ih λw s=>h w (54 s)) λds g1 g2=>?_;exact⟨d::ds,mQ e1 g1,by rw[ck.qN,e2,g2];rfl⟩
def ao7{n:I}{os:1e0}{ns:33e1}:(∀p∈ns,KV .x p.2)->∃ds,111 (n+3) os (ns.aj ux)=G ds/\111 (n+3) os (ns.aj uy)=G ds/\ck.qN ds=true:=by
 induction ns with
 |aR=>exact λx=>⟨[],H,H,H⟩
 |aQ p ns ih=>
  intro h;show aN (XM (n:=n) (os:=os) (h p (D.dQ ..))) λd e1 e2=>?_;show dV (ih λw s=>h w (54 s)) λds g1 g2 g3=>?_;have f1:∀t,eN (n+3) os (.X [0 p.1,.ad [p.2] t])=G (.qz [.y p.1,.az [d]]):=λt=>ol (f:=ck.qz) (mQ (f:=eN (n+2) os) (d:= .y p.1) H (mQ (ol (f:=ck.az) (mQ e1 H)) H));exact⟨.qz [.y p.1,.az [d]]::ds,mQ (f1 _) g1,mQ (f1 _) g2,by simp only[ck.qN,ck.ju,e2,g3,al.te]⟩
section
variable{b:MB}{a:aI}{en:V}{cB:D V}{k:I}{ns:D (K×V)}
def ao8(apx:20e7){T:0e1}{o:2e1}:qq .gK 21e0 (.Z 10) 6e8 T o false:=by
 show dV (ao7 (n:=8) (os:=6e8) apx.ns.1) λds g1 g2 g3=>?_;rw[<-apx.no]at g1;rw[<-apx.nl]at g2;exact wt (d:= .az ds) (show(111 11 6e8 b.no).aj ck.az=_ from ol g1) (show(111 11 6e8 b.nl).aj ck.az=_ from ol g2) (by rw[ck.ju];exact g3)
def c_T(apx:20e7){T:0e1}{o:2e1}:qq .gK 7e9 (8 [13e5,13e6,13e7]) (6e8++[16 [6 b.T0,6 b.T1,6 b.T2]]) T o false:=by
 generalize s:c9 b a en cB++[aps.az [V.ad b.T0 true,.ad b.T1 true,.ad b.T2 true] false]=os;show aN (392 9 apx.T0.1) λd0 e0 c0=>?_;show aN (392 9 apx.T1.1) λd1 e1 c1=>?_;show aN (392 9 apx.T2.1) λe e2 c2=>?_;have f:∀{l:0e0} {d:D ck} {t:al},111 10 os l=G d->eN 11 os (.ad l t)=G (.az d):=λh=>ol h;have g:∀{i:I} {l:0e0} {d:D ck} {t:al},os[i]? =G (.az l t)->111 10 os l=G d->eN 11 os 15e9=G (.az d):=λp h=>Ox p H h;have h2:os[2]? =G (37 b.T0):=by rw[<-s];rfl
 have h3:os[3]? =G (37 b.T1):=by rw[<-s];rfl
 have x:os[4]? =G (37 b.T2):=by rw[<-s];rfl
 have r:os[51]? =G (16 [6 b.T0,6 b.T1,6 b.T2]):=by rw[<-s];rfl
 show wt (d:= .az [.az d0,.az d1,.az e]) ?_ ?_ ?_
 ·exact Ox r H (mQ (f (t:=true) e0) (mQ (f (t:=true) e1) (mQ (f (t:=true) e2) H)))
 ·exact ol (f:=ck.az) (mQ (g h2 e0) (mQ (g h3 e1) (mQ (g x e2) H)))
 ·simp only[ck.ju,ck.qN,c0,c1,c2,al.te]
def c_m{T:0e1}{o:2e1}:qq .gK (6 4e2) 10e0 6e8 T o false:=by
 have r:eJ .x 4e2:=λv s=>by
  (show aN (D.sr.mp s) λx p h=>?_;subst h);clear s;exact 19e7
 show aN (wu (n:=10) (os:=6e8) r) λds e c=>?_;exact wt (d:= .az ds) (show(111 11 6e8 4e2).aj ck.az=_ from ol e) (show(111 11 6e8 4e2).aj ck.az=_ from ol e) (by rw[ck.ju];exact c)
def XN{v:V}(b:KV .x v){x app z:K}{T:0e1}{o:2e1}{l:1e0}(s:l.U=51):qq .gK 7e9 (8 [6e6,2 app,2 z,v]) (l++[16 [6e6,2 app,2 z,v]]) T o false:=by
 generalize h:l++[aps.az [V.y x true,.y app true,.y z true,v] false]=os;have s:os[51]? =G (16 [V.y x true,2 app,2 z,v]):=by
  rw[<-h,D.lA (by exact I.hZ s),s];rfl
 clear h;have a:eJ .x [V.y x true,2 app,2 z,v]:=214 19e7 19e7 (214 19e7 b mN);show aN (392 10 a) λds e c=>?_;show wt (d:= .az ds) ?_ (ol e) (by rw[ck.ju];exact c);exact Ox s H e
def XO{n m:I}{os:1e0}{v:V}(h:v= 0e6\/∃l,v= 6 l/\eJ q l/\l.U=m):∃d,eN (n+2) os v=G d/\d.ju=true:=by
 rcases h with H|⟨l,H,s,_⟩
 ·exact⟨.L,H,H⟩
 ·show aN (392 n s) λds e c=>?_;exact⟨.az ds,ol e,by rw[ck.ju];exact c⟩
def c_e(apx:20e7){T:0e1}{o:2e1}:qq .Eq (.Z 20) (.Z 7) 6e8 T o true:=by
 show aN (XO (n:=9) (os:=6e8) apx.e0) λd0 e0 c0=>?_;show aN (XO (n:=9) (os:=6e8) apx.e1) λd1 e1 c1=>?_;have h:(111 11 6e8 [b.e0,b.e1]).aj ck.az=G (.az [d0,d1]):=ol (mQ e0 (mQ e1 H));exact ao6 (d:= .az [d0,d1]) h h (by simp only[ck.ju,ck.qN,c0,c1,al.te])
def c_d(apx:20e7):qq .Eq (.Z 21) (.Z 9) 6e8 T o true:=by
 have h1:∀x l t,6e8[x]? =G (.az l t)->eN 12 6e8 (.Z x)=(111 11 6e8 l).aj ck.az:=λx l t h=>by
  refine((6e8[x]?.cr aps.sq).cr _)=_;rw[h];rfl
 have p:6e8[21]? =G (16 [b.d0,b.d1]):=H;have r:6e8[9]? =G (16 [b.d0,b.d1]):=H;have apt:Qp 6e8 (.Z 21) (.Z 9)=(eqB [b.d0,b.d1] [b.d0,b.d1]).aj λb=>(b,true):=H;refine∃t,vEq 6e8 (.Z 21) (.Z 9)=G (true,t);unfold vEq pB;rw[h1 _ _ _ p,h1 _ _ _ r,apt];rcases apx.d0 with e0|⟨e,e0,_⟩<;>rcases apx.d1 with e1|⟨s,e1,_⟩<;>rw[e0,e1]
 ·exact 25e1
 ·exact⟨true,bC (λq=>G (true&&(q&&true),true)) (eE (rfl:s=s))⟩
 ·exact⟨true,bC (λq=>G (q&&(true&&true),true)) (eE (rfl:e=e))⟩
 ·exact⟨true,(bC (λq=>G (q&&(274 s s&&true),true)) (eE (rfl:e=e))).aV (bC (λq=>G (true&&(q&&true),true)) (eE (rfl:s=s)))⟩
universe e
def XP(hm:∀i f,fA 50 f->f9 f 30e2=30e2)(s:l5 b):kr 51 (wo b a):=λi f h=>XG (XF hm s λj x=>h j (I.yq x aq)) i
section
variable{S B B2:D V}{bO:al}{sm apr:K}
def ao9(h:b.m=(18e2).m):((j3 b a)++[aps.az [] false]).aj eI=(118 (lw (wo b a) 18e2)).aj eI:=by
 obtain(⟨m,s,e9,x,aO,T0,T1,T2,c0,c1,c2,e0,e1,d0,d1,no,nl,gv,pk,g⟩):=b;have h:m=(18e2).m:=h;subst h;rfl
def apa(h:b.m=(18e2).m)(hL:LC (lw (wo b a) 18e2) 0 [] (.Y (105 gn) 6e8 (b2 18e2))):122 40 (22 1455 [6e3,9e0,23e1]) (j3 b a) T gn 6e8 T:=
 iY (aoY aw b a B apr gn T _ _) (39 (aot (ao9 h) (λk v e=>⟨v,e,H⟩) hL)) 17e5
def apb(h:O.aj eI=ok.aj eI):gb 0 O ok T T 39e7:=by
 have x:O.U=ok.U:=by have:=bC D.U h;simpa using bb
 show⟨⟨λi o e=>?_,λi a=>by exact yo x a,λi j s s h=>h,λk v e=>⟨v,e,by rw[n6]⟩⟩,λs s=>rfl,31e8⟩;have e2:=bC (·[i]?) h;simp only[D.nY,e,ar.tc]at e2;show aN (ar.ha.mp e2) λo2 g1 g2=>?_;exact⟨o2,g1,by rw[uu];exact g2⟩
def Oy(hL:oa (lw (wo b a) b))(m:∀f,41e1=en)(hs:21 cB cB)(p:∀k v,19e1=2e5->∀f,fA 50 f->15e3=v):gb 0 (6e8++[x]) 6e8 T T (gm 43e1 (6e8++[x]).U):=by
 have n:(6e8).U=51:=uw ..;have r:∀j,j<51->gm 43e1 (6e8++[x]).U j=j:=λj h=>by
  unfold gm;rw[D.ut h];rfl
 show gb.sE (fV:=43e1) ?_ D.WV (λk v e=>⟨v,e,by rw[p k v e _ λj h=>r j (I.yq h aq)]⟩) H;have hr:(6e8).aj (f9 (gm 43e1 (6e8++[x]).U))=6e8:=WU hL _ r (og _ _) (m _) (hs _);rw[C3,hr];show D.V8 λi=>?_;rw[D.nY,D.nY];by_cases s:i<51
 ·rw[D.ut s];refine G (((6e8++[x])[i]?).aj eI)=(6e8[i]?).aj (λo=>G (eI o));rw[D.kO (by exact I.LV s),D.ic (by exact I.LV s)];rfl
 ·rw[D.q4 (by simp;exact I.C9 s),D.q4 (by exact I.C9 s)];rfl
def apc(apx:20e7)(j:zn gn)(apA:l5 b)(hm:∀i f,fA 50 f->f9 f 30e2=30e2)(p:∀f,41e1=en)(hs:21 cB cB)(t:21 S S)(R:21 B B)
  (apd:122 40 (22 1455 [6e3,9e0,23e1]) (j3 b a) (10e5++[(157,gn)]) gn 6e8 (10e5++[(157,gn)])):ig 40 [lS 5,lS 6,lS 7,lS 8,lS 9] 0 (88 (j3 b a) (157,gn) []) (20 45e6 [] [] [] []):=by
 have apw:=apx.T0.2;have V:=apx.T1.2;have W:=apx.T2.2;have hL:oa (lw (wo b a) b):=apx.oh (XP hm apA);have h:=zo (apr:=apr) t R j.1;show aN (j.2 6e8) λdt t1 t2=>?_;have c:=hR 40 60 (.ss [lS 9]) (88 6e8 (157,gn) [33e9,33e9]);rw[aoX aw b a S B apr gn en cB]at c;have m:ig 40 [lS 9] 0 (88 6e8 (157,gn) []) (20 45e6 [] [] [] []):=
  mc (aj7 (a:= 45e6) (fL:=[]) (gc:=[]) c (24 (c_e apx) (c_d apx)) (gb.sE (fV:=[]) H D.kP (λk v e=>19e2) H))
 have g:ig 40 [lS 8,lS 9] 0 (88 6e8 (157,gn) []) (20 45e6 [] [] [] []):=by
  rcases apx.c2 with e|⟨n,e,_⟩
  ·have s:=202 8 (88 (231 44e9 cB) (157,gn) [8e9]);rw[aoV aw b a S B apr gn en cB]at s;have r:({b with c2:= .aa .L}:MB)=b:=by rw[<-e]
   have q:=XN (v:= 0e6) 2e6 (x:=b.c1) (app:=b.e9) (z:=b.c0) (T:=10e5++[(157,gn)]) (o:=[8e9]) (l:=231 44e9 cB) (uw ..);rw[r]at s q;exact mc (mM s (39 q) (yW (Oy hL p hs h) λbG=>mc m))
  ·have s:=202 8 (88 (231 (337 n) cB) (157,gn) [8e9]);rw[aoW aw b a S B apr gn en cB n]at s;have r:({b with c2:= .y n false}:MB)=b:=by rw[<-e]
   have q:=XN (v:= 0 n) 19e7 (x:=b.c1) (app:=b.e9) (z:=b.c0) (T:=10e5++[(157,gn)]) (o:=[8e9]) (l:=231 (337 n) cB) (uw ..);rw[r]at s q;exact mc (mM s (39 q) (yW (Oy hL p hs h) λbG=>mc m))
 have s8:=202 7 (88 6e8 (157,gn) [8e9,8e9]);rw[uS8 aw b a S B apr gn en cB]at s8;have P:=mc (o2:=[]) (mM s8 (24 c_m ⟨true,av⟩) g);have w:=202 6 (88 6e8 (157,gn) [8e9]);rw[uS7 aw b a S B apr gn en cB]at w;have apq:=mc (o2:=[]) (mM w (27 bN bN bN (c_T apx)) (yW (Oy hL p hs h) λbG=>mc P));have u:=202 5 (88 (j3 b a) (157,gn) [261 1455 gn 6e8,8e9,8e9,8e9]);rw[uS6 aw b a S B apr gn en cB]at u;exact mc (mM u (27 apd (wt t1 t1 t2) (wt (d:= .y b.gv) H H H) (ao8 apx)) apq)
universe e
def ape(l:D K)(f:I->I):bQ f (264 37e8)=264 37e8:=by
 rw[lE,D.rB];rfl
def law_ok:XI:=by
 intro hy l;have w:∀v∈(hy.aj λi=>V.y i true),∃i,v=37e8:=λv e=>by
  (show aN (D.sr.mp e) λi P m=>?_;subst m);exact⟨i,H⟩
 have s:=ape hy;show sP (aor w (by rw[D.fq];exact l) s) λB B2 bO n p r x d q=>?_;show⟨false,?_⟩;rw[aoZ];show mc (bS1 (apr:=0) (q _) aow (mc (bS2 (apr:=0) ?_)));obtain⟨o,h3⟩:=bS3 (hy:=hy) (O:=u0 hy.lc B2 bO++u1 hy.lc B) (v1:= 9e0) (v2:= 6e3) (v3:= 21e0) (v4:= 21e7) (v5:= 27e6) (b:=[lS 3,lS 4,lS 5,lS 6,lS 7,lS 8,lS 9]) (bI:= 20 45e6 [] [] [] []) λapr j=>by
  show mc (bS4 ?_);show yW (apb (aoF hy.lc apr B B2 bO)) λbG=>?_;obtain⟨g,c⟩:=bS5 (sm:=hy.lc) (F:=[lS 5,lS 6,lS 7,lS 8,lS 9]) (bI:= 20 45e6 [] [] [] []) j n p r x d s λz en cB f app t a k h hm u hs apx e1 e2 e3 hL=>
   apc apx k h hm u hs s x (apa e1 (hL _ (XP hm h)))
  exact mc c
 exact mc h3
set_option backward.match.sparseCases true
def aK.start{m apA:am->12e4}(R:g9 s.M 40e1)(app:lr<=s.M.O.an)(apD:s.dD= #[]) (hL:ab.cY=s.M.O.an) (xc:InCallC s ab.cY m ab.b3 apA s1)
  (hf:ab.ec=31e5) (hk:ab.bt.d9= .jJ) (q:(ab.b3.aj (·.1)).dT)
  (jy:∀k v,19e1=2e5->∃u,RV [] s.M v u/\(33e4=12e3->m 5e5=G u)/\(33e4≠12e3->apA 5e5=G u))
  (z:∀n,(37e4=18e8\/37e4=23e5)->(378 n)=true):
  aK ⟨w,mP.hW ab,ab,s.os,false⟩ [] ⟨[],T,[]⟩ s1:=by
 have f:=xc.oY.bS;(show qf xc.oY.fE λh1 tk V=>?_;subst V);have apq:∀n c,(n,c)∈ab.b3->s.M.O.an<c:=λn c h=>hL▸xc.LJ n c h;have no:∀a,¬68 []:=(by rintro a ⟨p,P,_⟩;exact nomatch P);have gz:∀l',(mP.hW ab).dY=G l'->l'=[ab]:=λl' h=>by
  have:(mP.hW ab).dY=G [ab]:=H;rw[bb]at h;exact(52e7).bi
 show⟨λp P=>f _ _ (R p (At _ p P)),H,λi o p e d=>19e2,D.kP,λa h=>(no a h).ak,λa h=>(no a h).ak,⟨(312 xc.oY.ns),λk v a b=>?_⟩,λa d=>no a,λa x=>?_,⟨?_,q,λn q=>?_⟩,λd n c z=>?_,λl g e j=>?_,λa x=>⟨?_,no a⟩,apD,H,?_⟩
 ·show dV (jy k v b) λu r e d=>?_;exact⟨u,e a,dP (jc f) r⟩
 ·show dV (jy k v b) λu r d e=>?_;show oE (ar.mT.mp (z _ a)) λc S=>?_;have apw:33e4≠12e3:=by
   have t:33e4=18e8\/33e4=23e5:=a;rcases t with t|t<;>rw[t]<;>decide
  exact⟨c,u,S,(e apw)▸xc.dm _ c S,dP (jc f) r,no c⟩
 ·rcases x with H|⟨_,n,q⟩
  ·exact hL▸app
  ·exact 350 app (apq n a q)
 ·have:=xc.apart;rw[D.dT,D.afl];exact bb
 ·have h1:=apq n _ q;have h2:ab.cY=s.M.O.an:=hL;rw[h2]at h1;exact 292 h1
 ·exact⟨_,xc.dm n c (SP q z)⟩
 ·rw[gz l g]at j;cases D.cZ.mp j;show uD xc.oY.ns λo es ep e1 e2 d=>?_;exact⟨hk,_,o,hf,e1,es,ep,e2⟩
 ·obtain(⟨l,g,e,j,x⟩):=x;have W:l=[ab]:=gz l g;rw[W]at j;cases D.cZ.mp j;clear j;rw[hf]at x;cases x;exact hL▸app
 ·show⟨#[],f _ _ (R (1391,qp w.bV) ?_),2e6⟩;have:((40e1).nv (352 1391))=G (1391,qp w.bV):=av;exact D.uP bb
def XQ:lk ft 1467=G qy:=av
def items_int{R:XR}{xs:D wq}:WShape.hasItems R xs .y=true->∃is:D K,xs=is.aj .y:=by
 induction xs with
 |aR=>exact λa=>⟨[],H⟩
 |aQ x xs e=>
  intro h;unfold WShape.hasItems at h;show oA 48e3 λh1 h2=>?_;(show oE (hasW_int h1) λi s=>?_;subst s);(show oE (e h2) λis s=>?_;subst s);exact⟨i::is,H⟩
def apf{R:XR}{cl:am->ar aI}{h:ai}{is:D K}:∀{vs:2e4} {as:11e9},ReadsAllW R cl h vs (is.aj .y) as->cx [] h (is.aj 48e1) vs:=by
 induction is with
 |aR=>intro vs as r;rw[(apg r).1];exact .aR
 |aQ i is p=>
  intro vs as r;(show qg (aph r) λv vs k m e x a b=>?_;subst e);clear r;(show aN (readsW_int_inv a) λt s x=>?_;subst s);clear a;exact .aQ (.y ..) (p b)
def api{R:XR}{cl:am->ar aI}{h:ai}{is:D K}{vs:2e4}{as:11e9}(a:is.U<=63)(r:ReadsAllW R cl h vs [.az (is.aj .y)] as):∃u,vs=[u]/\RV [] h (6 (is.aj 48e1)) u:=by
 (show qg (aph r) λu vs w q m k r1 r2=>?_;subst m);clear r;rw[(apg r2).1];(show nn (readsW_list_open r1) λl o j s=>?_;show uE s λn v e e1 e2 e3 x=>?_;try clear s;subst e;show oA x λe4 k=>?_;try clear x);clear r1;exact⟨_,H,.ad _ _ _ _ ⟨_,e1,e2,_,e3⟩ ((by rintro⟨p,b,_⟩;exact nomatch b)) (368 (I.dW a aq)) (apf e4)⟩
def call_law(apj:XI)(w:eA)(s₀ s:ae)(apu:g9 s.M 40e1)(hsz:kB.n1<=s.M.O.an)(P:D wq)(vs:2e4)(as:11e9)
  (XS:jH.re.pre P=true) (MU:wq.XK P=true) (apt:Laid [] w s₀ s P vs as):
  aM (bh pw w) mP (PySem.aX (.N 1467) vs) (λv s'=>Ou jH.re (zp s₀.M) 54e8 P s (.Y (.bk v)) s')
     (λe s'=>Ou jH.re (zp s₀.M) 54e8 P s (.dI e) s') s:=by
 clear MU;show oA (pre_splitW XS) λp1 apA=>?_;clear XS;(show jz (hasAllW_cons (e:= .az .y) (es:=[]) p1) λd r yL h1 h2=>?_;subst yL);clear p1;cases hasAllW_nil h2;(show aN (hasW_list h1) λxs g h3=>?_;subst g);(show oE (items_int h3) λhy g=>?_;subst g);have apF:hy.U<=63:=by
  have e:∀l:D wq,jH.pre.holds jH.XL {pm:=[.az l]}=WTm.holds jH.XL (.and (.oG (.lit (.bp (decide ((63:K)<(l.U:K)))))) (.lit 22e6)) {pm:=[.az l]}:=λl=>av;rw[e,D.fq]at apA;show I.C9 λq=>?_;rw[eE (show(63:K)<(hy.U:K) by lia)]at apA;exact bM (show false=true from apA) al.lK
 show oE (apj hy apF) λtt apk=>?_;(show aN (api apF apt.reads) λu g ru=>?_;subst g);show jz (CS w.bV XQ) λfd B apl hB apv=>?_;have R:g9 s.M (KL w.bV):=λp f=>apu p (At _ p f);show aN (apv.Z w.bV) λo hm hd=>?_;have rs:cx [] s.M [V.ad (hy.aj 48e1) true] [u]:= 265 ru;show aN (apv.cr s w.bV R [] _ [u] rs H) λB4 r' apm=>?_;have Q:lr<=s.M.O.an:=by
  have e:kB.n1=lr:=av;rw[<-e];exact hsz
 have apC:∀app∈(qy.ps.aj nm).fw B4,app.1∈qy.ps.aj nm:=λapp C=>(D.of_mem_zip C).1;show rh (OH (cX:=B) aq (R _ hm) hd apv.co apv.gen apv.cX (apv.dH _ _ R) (apm _ _ _ _ ?_));rw[apv.SM];show afy apv.d9 (λapp C=>?_) λab m s1 xc=>?_
 ·show aN (D.sr.mp (apC app C)) λp f e=>?_;rw[<-e];rcases apv.pk p f with h|h
  ·exact 25e7
  ·exact .aE ⟨h,vL 25e7⟩
 have hL:ab.cY=s.M.O.an:=bC (·.cY) m;have apD:ab.ec=31e5:=(bC (·.ec) m).aV (bC (G ·.cY) m).bi;have apq:ab.bt=fd.bt:=bC (·.bt) m;have W:ab.b3=t7 (180 1) fd.bt.bq []:=bC (·.b3) m;have yH:ab.g8=iB:=(bC (·.g8) m).aV apv.vy;have hbl:ab.jC=mU:=(bC (·.jC) m).aV apv.jN;have gJ:∀n c,(n,c)∈ab.b3->ab.cY<c:=λn c h=>xc.LJ n c h;have S:=xc.oY.bS;have A:∀n,37e4=fd.bt.bq.bZ n:=λn=>by unfold ez.dB;rw[apq]
 have apx:∀n,37e4≠23e5:=λn h=>by
  rw[A]at h;exact apv.SN _ (nc h) H
 show⟨LI (λp f=>S _ _ (R p f)),OF ?_⟩;have R1:=aK.start (w:=w) (T:=qy.ps.fw [351 48e1]) apu Q apt.dD hL xc apD (by rw[apq];exact apv.d9) (by rw[W];exact SK apv.bq D.kP λj j h=>nomatch h)
  (λk v e=>SJ _ _ apv.SO r' k v e) (λn h=>by
   rcases h with h|h
   ·rw[W];rw[A]at h;exact vL 25e7
   ·exact bM h (apx n))
 have yM:(53e5).Ok 40:=by
  show⟨by refine ab.bt.d9=_;rw[apq];exact apv.d9,yH,hbl,λn h=>?_,by refine mP.g7+1+_+_<_;decide,by refine mP.jb+3+_+_<_;decide,H,H,⟨[ab],H,λj=>⟨[],H,apD⟩⟩,λq=>nF q⟩;rcases h with h|h
  ·refine(378 n)=true;have h':37e4=18e8:=h;rw[W];rw[A]at h';exact vL (.a4 h')
  ·exact bM h (apx n)
 have apn:qF qy.cX=L:=av;have hch:=VV w.bV XQ apn apl hB;have aps:aK 53e5 ([]++[]) ⟨[],[(93,351 48e1)],[]⟩ s1:=R1;show eW (apk 60 fd.bt B hch ⟨w,mP.hW ab,ab,s.os,false⟩ [] [] s1.M s1 (λfl s'=>fl= .bk 22e6/\qK s'.M/\(∃aC,56 [] ⟨w,mP.hW ab,ab,s.os,false⟩ s1.M s'.M)/\s'.os=s.os/\s'.dD= #[]) (λj j=>fR) yM apq H pU.never H aps (Kp.b8 ..) ?_) ?_ (λj j q=>q.ak)
 ·intro aC s' u apE z r3;cases r3 with
  |bk r3=>
   cases r3;exact⟨H,apE.cW,⟨aC,z⟩,apE.os,apE.dD⟩
 ·rintro fl s' ⟨H,E,⟨aC,z⟩,Lw,apo⟩;have notFr:∀a,a<s.M.O.an->¬fr 53e5 a:=by
   rintro a t (rfl|⟨_,n,hn⟩)
   ·exact 31 t 39e0
   ·have h1:=gJ n a hn;exact 31 t (350 39e0 h1)
  clear h1;have notFA:∀a,a<s.M.O.an->¬FA 53e5 a:=by
   rintro a t ⟨l,hl,e,m,apy⟩;have hl2:l=[ab]:=(ar.G.cF hl).bi;rw[hl2]at m;cases D.cZ.mp m;rw[apD]at apy;cases apy;exact 31 t 39e0
  show⟨.a4 ⟨22e6,22e6,[],H,λbj=>av,22e6,?_,λj=>⟨D.kP,λa t=>nomatch t⟩⟩,⟨λb o e=>?_,λb o e=>z.g5 b o (S b o e)⟩,Lw,.of_eq apo⟩
  ·exact al.mB.bn (238 av)
  ·have apr:=9e1;cases apz:iu o with
   |false=>exact .a4 (z.bS b o (S b o e) apz (notFA b apr) (notFr b apr) (by rintro⟨p,f,_⟩;exact nomatch f))
   |true=>
    by_cases apB:b=lW
    ·subst apB;have g1:s.M.ao 1391=G (qp w.bV):=by
      show apu (1391,qp w.bV) ?_;have:((40e1).nv (352 1391))=G (1391,qp w.bV):=av;exact D.uP bb
     have g2:s.M.ao 1395=G (s9 w.bV):=by
      show apu (1395,s9 w.bV) ?_;have:((40e1).nv (352 1395))=G (1395,s9 w.bV):=av;exact D.uP bb
     have ho:o=qp w.bV:=ar.G.cF (e.bi.aV g1);subst ho;(show aN E λps hps' j=>?_;try clear E);show .aE (.a4 ⟨⟨1395,_,_,g2,H,H,H⟩,H,#[],ps,H,?_⟩);rw[hps'];exact bC (λx=>G (apw.Rm x)) (bP.empty_append (xs:=ps)).bi
    ·exact .a4 (z.iV b o (S b o e) apz apB)
universe e
end
end Internal
end
theorem PySem.Challenge.cw_nm0174_01_holds : PySem.Challenge.rw_nm0174_01.Holds :=
  Internal.holds_R Internal.said (Internal.call_law Internal.law_ok)
