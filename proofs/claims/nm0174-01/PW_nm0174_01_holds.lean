import PyProof.Rows.All
import PyProof.FactsAll.list_3
import PyProof.FactsAll.dict_3
import PyProof.FactsAll.dict_4
import PyProof.CodeObjX
import PyProof.CompFree
import PyProof.Conv_int_bool
import PyProof.Draws
import PyProof.EnumMake
import PyProof.P3Eq
import PyProof.ExcBaseAll.Exception
import PyProof.ExcAttrAll.Exception
import PyProof.RangeFor
import PyProof.InstStoreFacts
import PyProof.Rows.SeqRoads
import PyProof.WalkInts
import PyProof.ZipIter
import PyProof.TupleOfSeq
import KE.BitLaws
import KE.BytesMake
import KE.KItem
import KE.KBytesWalk
import KE.KDictSum
import Wide.FinOn
import OpenK.AllK
import Wide.All
import Lean
import PySem.Challenge.RW_nm0174_01
set_option Elab.async false
set_option maxRecDepth 100000
set_option maxHeartbeats 4000000
set_option linter.all false
set_option genSizeOf false
set_option genInjectivity false
set_option tactic.hygienic false
section
set_option compiler.extract_closed false
namespace Internal
def qqqM : String := "0P48131H121312221512[0[0[0[0[0[0[0[0[0[0[0[0[0[0[0[0>O1226111P2[0Z1V[0[0[0[0[0[0[0[0U13<111211119<355T1111111111111111111111111111111111111111111111111111111111111111111111111111111111111121133Q4461434;1=2616272<31581[0[0B2211251114173@112721372H141:14111311231:121223291@112C1421111@1113231=1226171615381214282[06153:1>1@331447Q;1L525>171B2?1C1:19141:1226152S11112422151[0U12131B25511[0K4221181916131123122>121T1[0<1D1<1F4[051?2T231@13244<5254321:17281Q"
def qqqT : Std.HashMap String String := ("y int;D List;F st;G some;H rfl;I Nat;J lay;K Int;L none;M heap;N ref;O objs;T loc;U length;X tup;Y ok;Z obj;aa raw;ab env;ac za0;ad lst;ae Shared;af Value;ag str;ah fmod;ai Heap;aj map;ak elim;al Bool;am Str;an size;ao get?;ap byDE;aq Option;ar byKR;au stk;aw Params;ay list;az Obj;aA type;aB more;aC rest;aD inr;aF up1;aH Addr;aI toNat;aJ Rel;aK fdiv;aN mem;aO items;aP cons;aQ nil;aT pos;aU trans;aV Lay;aW call;aX wpAny;aZ Expr;a0 toks;a1 sub;a2 inl;a5 bin;a7 exc;a9 this;bb prog;bd UInt8;be data;bf wpAny_bind;bg model;bh symm;bi cls;bj ret;bl mpr;bn Mod;bo bool;bp names;bq rep;br scope;bu inst;bv dict;bw row;bx asg;bz next;bB congrArg;bC iff;bH out;bI builtin;bJ decide;bK kvs;bL absurd;bM byLI;bN ft2;bO Array;bR keep;bT cmp;bU params;bW wpAny_pure;bX beq;bY lookup;b1 za1;b2 cells;b4 Sem;b5 push;b6 stk';b7 refl;b8 pure;b9 obs;ca za2;cb FloorDiv;ce ctorIdx;cf ofNat;ch add;ci za3;cj PyData;ck Stmt;cm kernel;cn fields;cq bind;cr za4;cx Own;cy le_of_ble_eq_true;cA za5;cB cond;cC Scope;cD casesOn;cE inj;cG seq;cH byRF;cM set;cN stk0;cO acc;cP lt_size;cQ key;cR len;cU local;cV host;cW body;cX locals;cY mem_singleton;c5 za6;c6 za7;c7 Good;c8 za8;c9 za9;df Around;dh run;dk cell;dq Name;dr st2;du not_lt;dv Add;dz Pos;dA kindOf;dB lay0;dC gens;dG code;dH error;dI all;dK Bytes;dL get;dP mem_cons_self;dQ Frag;dR range;dS Nodup;dT adr;dV le_trans;dW tabS;dX frames;dY append_nil;dZ trivial;d2 own;d4 rows;d5 if_neg;d7 facts;d8 kind;eb frame;ec con;ef fin;ei one;em get?_push_of_some;er reverse;et hit;ey Unit;ez Env;eA World;eB eval;eC le_refl;eE decide_eq_true;eG free;eH keeps;eJ All;eL za10;eM update;eN toD;eO append_assoc;eQ flat;eR mem_cons;eS here;eV objsC;eX if_pos;eY attr;e6 Looks;e8 handled;e9 far;fe za11;ff ite;fg in1;fh drop;fj Out;fk fresh;fo of_decide_eq_true;fq length_map;fs iota;fu injEq;fv put;fw zip;fy SameBut;fA fix;fE same;fF get?_push_size;fG take;fL objs3;fN any;fQ Code;fR False;fS String;fV sel;fX decide_eq_false;fZ eq_of_beq_eq_true;f0 sizeLine_eq;f3 toList;f4 Mult;f5 imp;f8 Keeps;gc loc3;ge getD;gf name;gi replicate;gj loop;gn told;gq holding;gr boot_o_4;gt wpAny_of_eq;gv steps;gy low;gF toArray;gG map_inj_left;gH mem_cons_of_mem;gJ hcl;gK NotEq;gL enum;gM getElem?_eq_some_iff;gR Program;gT za12;gV ListComp;gW IsList;gY knd;gZ neg;g4 ble;g5 alive;g6 den;g7 depth;g8 globals;ha map_eq_some_iff;hb za13;hh za14;hj za15;hq za16;hw NameKind;hD script;hF under;hG wpAny_field;hH succ;hJ dictOf;hN length_append;hO other;hP locC;hR sound;hU contains;hV wpAny_mono;hW deeper;hY old;hZ le_of_eq;ib all_eq_true;ic getElem?_eq_getElem;ii za17;ik stack;il kept;im boot_o_0;io za18;ip ne_of_lt;iq isSome;iz Model;iB mainGlobals;iC rawInt;iD comp;iF line;iG isList;iH findIn;iI Sat;iK Flow;iL src;iM size_push;iN locs;iO DictEntry;iP wpAny_specialOf;iQ bytes;iR target;iT foldl;iV tab;iX andThen;i3 And;i4 zero;i6 bor;i7 bitAnd;i9 Const;ja mem_of_getElem?;jb units;jd nodup_cons;jj sub_self;jk IsTup;jl CmpOp;jm Sub;jn new;jo max;jp za19;ju canLay0;jv eq_of_beq;jw ext';jx le_of_lt;jB FuncData;jC builtins;jE at_;jF Thread;jG nsMap;jI init;jJ function;jK cenv;jL isEmpty;jN blt;jQ codes;jR Call;jT choose_spec;jU compareOp;jV not_le;jX starEach;jY top;j1 two;j4 notedBy;j5 guards;j6 live;j7 ifs;j8 PlainList;ka mk';kb bare;kh Tuple;kj stays;ku True;kw standAt;kx done;ky Fin;kz get?_update_self;kC Prod;kD typeLookup_type;kF builtinLookup_eq_fast;kG argsOk;kH TypeIs;kK Pow;kL clipAt;kM Attribute;kO getElem?_append_left;kP nodup_nil;kS backTo;kU layC;kV three;k7 bind_eq_some_iff;k8 owner;k9 isSubtype_type;la IsPart;lb and_eq_true;lc sum;lf za20;lg band;lj LtE;ll truthy;ln za21;lv za22;lx length_reverse;ly globalImplicit;lA getElem?_append_right;lB lookup_cons;lI mem_append;lJ table;lK false_ne_true;lL isSubtype;lM iter;lN lt_irrefl;lV app;lX dictOf_iff;md Result;mg again;mh execs;mi func;mj tail;mm za23;mn not_mem_nil;mo or_false;mq extBut;mt each;mB and_eq_true_iff;mD objE;mF lt_of_lt_of_le;mH loc';mJ cons_ne_nil;mP callerA;mR noteFrame;mS stmts;mT isSome_iff_exists;mU builtinsNs;mV entryFor;mW decide_eq_true_eq;mX typeIs;m0 unit;m4 rowAt;m5 eName;m6 length_cons;m9 upd;na za24;nb spliced;nc mem_of_lookup;nh emod_nonneg;nn za25;np Fast;nq intro;nt default;nv find?;nw wpAny_call_entry;ny wpAny_rule;nA wpAny_holding;nB slots;nC zero_le;nD DictAt;nI keyOk;nM za26;nQ natCast_nonneg;nT emptyDict;nU instObj;nW map_cons;nX getElem?_map;n6 objsA;n7 locA;n8 emod_lt_of_pos;oj objs';ok za27;ol za28;om drawn;on step;oo filter;ou isNs;ov Slot;ow mem_map_of_mem;ox wpAny_isInstance;oy pyNext;oz self;oC intKind;oF not;oH IsNot;oJ GtE;oK Src;oM cat;oR val;oW extract;oX toInCall;oY now;o3 Apart;o5 za29;o6 za30;o8 loc1;o9 za31;pb qualname;pc rec;pd rule;pe za32;pg ofString;ph getItem;pj args;pm typeLookup;pn typeIs_bytes;po SmallTypes;pq wpAny_standAt;pr elt;pt qual;pv mapSeq;px LShift;py za33;pA za34;pB head?;pE store;pG stI;pL BoolOp;pM Return;pN Assign;pO IsCell;pS slice;pT PassesOwn;pV setIfInBounds;pW typeOf;pX isStr;pZ fst;p7 any_eq_true;p8 SrcAt;qb all2;qh onRaise;qj le_succ;qp bytearray;qr wpAny_newObj_type;qs mro;qt pyIter;qu compLoop;qv Perm;qw toNat_le;qy tuple;qG Subscript;qI beq_refl;qK IsDictOf;qL after;qM canLayAll0;qN DecidableEq;qO DictOf;qP length_take;qQ wpAny_Name;qR evalEach;qV propext;qW of_pure;qZ notStar;q0 ExceptHandler;q1 za35;q2 za36;q4 getElem?_eq_none;rc za37;re claim;rg Decidable;rj leaving;rk closure;rm wpAny_load;ro field;rp head;rq Ref;rr denote;rt main;ry keyHash;rA mem_filter;rB map_map;rD cStatics;rE IsSliceOf;rF assign;rG relabel;rH lt_succ_self;rI Operator;rL strOk;rN negSucc;rY UnaryOp;rZ Constant;r0 Slice;r6 za38;r9 toV;sb atK;sd beq_eq_false_iff_ne;sf length_drop;si blt_eq;sk length_nil;sn za39;so setFlight;sp mem_map;st isInstance;su apos;sw setItem;sz map_append;sB use;sK za40;sL ord;sQ enter;sR quiet;sS callAny;sT isTrue;sV life;sZ tk0;s3 za41;s4 za42;ta map_some;tc all_cons;td and_true;te signature?_of;tf wpAny_typeOf;th plain;tj wpAny_attempt;tl toNat_natCast;tm nextOf;tp IntsAre;tq sysModules;tr Pairwise;tu IsZip;ty natAbs;tz za43;tL strKind;tM flatMap;tQ or_eq_true_iff;tR le_add_right;tS hash;tT get?_none_of_le;t5 cellsFrom;t6 mapFields;t7 get?_update_ne;t8 clsIn;t9 machine;ui Range;uj toNat_of_nonneg;ul za44;um excClassObj;un za45;uq getElem?_range;ut za46;uy beq_false_of_ne;uD below;uF yield;uG Pass;uJ topFrame;uM mem_append_right;uN mem_of_find?_eq_some;uO nsKeys;uP nil_append;uQ entryFor_of_tree;uR rawPart;uT write;uU Data;uV codeAny;uW wants;uX slot_next;uY wpAny_setField;uZ ExtBut;u3 IsEnum;u6 foldedSetIterable;u7 first;u8 listExtendWith;u9 ne_of_gt;ve part;vr IfExp;vt Compare;vw glob;vx cellK;vz of_isNs;vE push_size;vF wpAny_release;vG noStar;vI value;vJ cellsFrom_some;vK length_set;vM beq_self_eq_true;vR assignEach;vU adopt;vV hlen;v0 za47;v6 za48;we shift;wf za49;wj lt_of_not_ge;wl za50;wn za51;wq WData;wv decodersThatHold;ww za52;wy mark_none;wz point;wC if_true;wD motive;wE za53;wP za54;wS za55;wT za56;wZ treeTable;w0 mem_append_left;w3 payload;w4 exported;w6 checkBuiltinCall;w7 not_eq_true';w8 wpAny_callSpecial?_slot;w9 compStart;xa ForInStep;xd ItemsOf;xe IsTupIter;xm BitAnd;xn RShift;xp flatten;xu isIn;xz za57;xC isExc;xK congrFun;xL za58;xW expr;x4 za59;x5 lt_of_le_of_lt;x6 KeyKind;x7 dict_int;x9 tupI;yc loadName;yd wpAny_nsGet;yg pairwise_flatMap;yh bind_some;yi operate;ym markedEach;yn ExactDict;yp le_of_eq_of_le;yq typeIn;yr lt_trans;ys hasDict;yt refKey;yu putName;yy arm_execs_cons;yz stored;yA map_congr_left;yB add_nil;yE apart_new;yN pairsOf;y4 bitAnd_m8;y5 funext;zn za60;zp classAt;zs wellSaid;zu wp_mono;zx theTreesLotGoes;zy cameBackBy;zA runOwn;zB isCoroutine;zC isGenerator;zD CodeRec;zE newFunctionEnv;zG cont;zH false_eq_true;zI if_false;zJ wpAny_execs_nil;zK load;zL Setting;zM stepOk;zO defaults;zQ behindTheImports;z1 za61;z3 za62;z4 za63;As za64;At za65;Au picked;Av plainId_quiet;Aw callSpecial?;Ax mroOf;Ay typeIs_int;Az not_lt_of_ge;AA beq_iff_eq;AB letOwnedTupleGo;AC closureFor;AD mem_reverse;AE listLengthHint;AF wpAny_ite_split;AG wpAny_updateSeq;AH get?_update_other;AI wpAny_seqItems;AJ wpAny_pyIter_list;AL forIn_cons;AR NotIn;AT za66;A3 callC;Bg BinOp;Bi Dict;Bm While;Bn Raise;Bo reverse_cons;Bt Lambda;Bz binaryOp;BB ToInt;BC zero_le_ofNat;BF add_le_add;BJ dict_str;BP decide_eq_true_iff;BQ add_comm;BT za67;BU ofNat_le;BX eraseIdxIfInBounds;B7 leave;B8 mem_or_eq_of_mem_set;Cb specialOf;Cc makesIn;Cd looks_findIn;Ce base;Cf getAttr;Ch za68;Ci methodCallForm;Cj methodCallPos;Cp pureO;Cq pos';Ct arm_eval_Call_Name';Cy length_replicate;CQ mem_range;CT za69;CY bitNot;CZ pow_nonneg;C0 toNat_lt;C2 bitAnd_m32;C9 le_of_not_lt;Da za70;Db za71;Dk map_replicate;Do RowC;DB attempt;DF block;DG recursionLimit;DL bindArgs;DM whileLoop;DN loadIfAlive;DQ isFreed;DR segRun;DS FunctionDef;DV kwdefaults;Ev za72;EQ za73;EX za74;Fa za75;Fk za76;Fr za77;FM za78;FS za79;Gc za80;Go za81;GE za82;GM za83;GT za84;H1 za85;Id za86;Ix za87;IO za88;IR za89;Jm boot_o_2;Jn boot_o_3;Jt byRow2;Jx take_append_drop;Jz asleep;JA Manifest;JJ exportsOf;JK checkResize;JP wpAny_call;JQ ownRelease;JR slotIsOwn;JU sizeLine;JV newExc;JY firstArgMember;JZ raiseNew;J3 comprehension;J4 Walks;J6 length_eq_zero_iff;J7 length_toList;J8 wpAny_newList;Ke bitOr;Kh keysOf;KB za90;KE za91;KF za92;KM za93;KS motive_2;KT za94;KX of_le;KY succ_le_succ;KZ min_le_left;La nsFind;Lb not_lt_zero;Ld wpAny_truthy_bool;Le ofNat_lt;Lj mem_flatMap;Lm replicate_succ;Lo listTooLong;Lr max_eq_right;LD markedBehindIn;LE size_toArray;LG bindL;LH bindC;LI noLimit;LJ above;LK readyFrames;LL lt_of_add_left_lt;LO getElem?_set_self;LQ callee;LT lt_of_succ_le;L2 lookIn_dict;L3 lookIn;L4 InstAt;L5 ownOf;L6 findIdx?;L8 pairwise_cons;L9 callWith;Ma backToKw;Mb keywordEach;Md getMethod;Me endLine;Mg arm_exec_Return;Mk bindName;Mp map_reverse;Mq assignInOrder;Mr arm_exec_Assign;Ms swapsWithSole;Mu forLoop;Mw IsListIter;MI foldl_cons;MJ rangeSize;MO inCells;MX len_list;M1 dictAt;M2 excBase_Exception;M8 isExcClass;M9 excFromValue;No za95;NC getElem?_take_of_lt;NE za96;NG lt_toNat;NI fdiv_eq_ediv_of_nonneg;NR min_eq_left;NS cons_append;NZ le_add_of_nonneg_left;N0 eq_ofNat_of_zero_le;N1 getElem_mem;N3 lt_of_sub_eq_succ;Od sum_cons;Oe sum_nil;On za97;Op za98;Os outcomeOf;Ot leftWithCleanup;Ou GoodWG;Ov ExcName;Ow means;Oz noConfusion;OC tw9446332074065402090;OD OpenLaw;OG wpAny_point;OI NoLimit;OK thread;ON mainNs;Pi through;Pj topRun;Pk true_and;Pl globalOf_eq;Pm behind;Pn asleep_of_life;Pp sliceParts;Pr subscript?;Ps newBytearray;Pt sliceIndices_raw;Pu guardIds;Pv za99;Py under_plainId;Pz quiet_builtin;PJ slot_int_index;PM entry_next;PN args_next;PR wpAny_pyIter_slot;PV wpAny_letGo;PW wpAny_handled;P1 slot_self;P2 isSubtype_stop;P6 listSameRef;P8 updateSeq;Qa listItems;Qb not_or;Qc preSum;Qd lt_succ_of_lt;Qe getElem?_toList;Qf bm_called;QA isNone;Re za100;Rm tableObj;Rq le_of_add_right_le;Rr intBits;Rs depthAll;Ru and_self;RG wpAny_loadName_local;RH wpAny_loadName_free;RI lt_of_succ_lt_succ;RS seqIndex?;RW za101;RY length_singleton;RZ nodup_append;R7 za102;R8 flatten_cons;R9 mul_comm;Sa call_meets;Sc za103;Sd min_le_right;Se sub_le;Si succ_ne_zero;Sj pairwise_iff_getElem;Sn reverse_reverse;Sy arm_eval_Tuple;Sz wpAny_newTuple;SA newList;SB za104;SC subscriptTail;SD wpAny_letTemporaryGo;SG slot_list_getitem;SK cellsFrom_names;SQ frameOf;SU setField;SZ za105;Td check_slot;Th plainOver;Tl za106;Tm za107;Tn findObj;Tp wpAny_mkText;Tq setAttr;Tr Keeper;Tt keepIn;Tv getMethod_builtin;Ty za108;Tz arm_eval_Call;TA Keyword;TB methodCall;TC swapsWith;TD za109;TE za110;TG module;TQ add_right_comm;TR add_le_add_right;TS wpAny_listPart;T3 za111;Uf za112;Uh single;Uj cellOf;Uk pure_bind;Uo ScopeKind;Us ble_eq;UF za113;UJ codeAny_call_builtin;UK wpAny_isSubtype_exc;UV raisedInstance;UX onTheHeap;UZ handleBy;U3 evalPairs;U6 mem_of_mem_drop;U7 mem_of_mem_take;Vm constOk;Vr or_eq_true;VF length_range;VG map_drop;VO refuseLoop_ref;V7 getElem?_of_mem;V8 ext_getElem?;V9 getElem?_drop;Wi natCast_emod;Wk mul_nonneg;Wl natCast_pow;Wn add_nonneg;Wo add_assoc;Wp emod_eq_of_lt;Wq bitAnd_m16;WE toNat_add;WF za114;WP za115;WV nodup_range;XD ints_map;XK layableAll;XL records;XS WRecords;XV za116;XY callFunction;XZ wpAny_enterFrame;X0 whileTurn;X1 unsupported;X8 Arguments;ZB za117;ZH drop_drop;Z0 za118;abs accountedOkI;aby table_eq_tree;abM slice_no_index;abQ eq_false_iff;abR wpAny_update;abS wpAny_lookBehind;abU checkTypeCall;abX codeAny_mono;ab1 entryFor_alias;ab4 codeAny_of_tree;acc za119;acf not_eq_false;acg data_mapFields;aci size_pos_of_not_empty;acl callType_new;acm args_object_init_2;acp wpAny_askSetting;acr lookup_relabel_local;acs wpAny_comp_letGo;act za120;acx plain_extend_loop;acy callType_codes;acG takeBufferQuiet?;acK slot_tupleiter_next;acM ownedTupleIsFree;acN wpAny_setField_rec;acO wpAny_onRaise;acQ slot_zip_next;adc za121;add za122;adr za123;adQ getElem_of_mem;ad7 or_eq_some_iff;ad8 loadName_read;aeo negSucc_lt_zero;aer getItem_tuple;aes add_lt_add_right;aev eq_of_lt_succ_of_not_lt;aew flatMap_append;aez slot_int_rmul;aeC toList_append;aeD toList_extract;aeE wpAny_getItem_list_slice;aeG slot_bytes_getitem;aeH wpAny_list_append_plain;aeK le_succ_of_le;aeM slot_list_pop;aeO le_of_succ_le;aeR arm_eval_Constant;aeV arm_eval_UnaryOp;ae4 arm_eval_BoolOp;ae6 behindInMarks;afa compareChain;afj letTemporaryGo;afk slot_dict_getitem;afl pairwise_map;afp eq_false_imp_eq_true;afr getElem?_set_ne;aft not_false_eq_true;afv set_append_right;afy wpAny_newFunctionEnv_cells;afF findIdx?_cons;afH putNameByArray;afJ storeInOwnDict;afK wpAny_loadPart;afT sliceBounds_plain;afZ slot_list_extend;af0 slot_dict_update;af5 arm_eval_Attribute;agb arm_exec_Expr;agc wpAny_dropValue;agh wpAny_storeName_local;ags wpAny_sequenceKey;agt add_le_add_left;agu add_sub_cancel';agw slot_list_setitem;agx listSubscript?;agC arm_assign_Name;agE arm_assign_Attribute;agG arm_assign_Subscript;agJ swappedStores;agL pairwise_reverse;agQ unpackItems_tuple;agV slot_enumerate_next;agW map_eq_none_iff;ag1 sub_add_cancel;ag2 rangeFitsLong;ag3 wpAny_pyIter_enum;ag6 call_enumerate_list;ahm wpAny_pyIter_listiter;ahn slot_tuple_iterator_iter;ahp wpAny_newFunctionEnv;ahD listItems_at;ahJ eq_of_mem_replicate;ahL wpAt_of_wpAny;ahO wpAny_mroOf_exc;ah8 arm_exec_Try;aig za124;ais functionCode;ait wpAny_fieldsOf;aiO lt_add_of_pos_right;aiP wpAny_pyIter_zip;akg and_two_pow_sub_one_eq_mod;all za125;alt toNat_add_nat;amp za126;amQ lt_of_add_one_le;any za127;anB za128;anX za129;ao4 layAllW_rest;ao5 leftWithCleanup_false_of_bare;apg readsAllW_nil_inv;aph readsAllW_cons_inv;app y;apq T;apr D;aps O;apt L;apu F;apv K;apw X;apx G;apy I;apz H;apA U;apB M;apC N;apD Y;apE Z;apK pm;apW f4;aqb po;aqg v0;aqj ap;aqk hw;aql s4;aqt sw;aqx nn;aq6 m0;aq7 a1;aq8 a2".splitOn ";").foldl (fun m s => match s.splitOn " " with | [a, b] => m.insert a b | _ => m) {}
open Lean in
def qqqK (n : Name) : Option Syntax := match n with
  | `byKR => some (Unhygienic.run `(by kernel_rfl)).raw
  | `byDE => some (Unhygienic.run `(by decide)).raw
  | `byLI => some (Unhygienic.run `(by lia)).raw
  | `byRF => some (Unhygienic.run `(by rfl)).raw
  | _ => none
open Lean in
def qqqC (ts : Array (Array Name × Syntax)) (t : Syntax) : Syntax :=
  let sb (k : Nat) (x p : Syntax) : Syntax := match ts[ts.size - k]? with
    | some (ps, b) => (b.rewriteBottomUp fun u => if u.isIdent && ps.contains u.getId then x else if u.isOfKind ``Lean.Parser.Tactic.rcasesPatLo then p else u)[1][1][0][0][0]
    | none => t
  if t.isOfKind ``Lean.Parser.Tactic.cases then
    let x := t[1][0][1]
    if !t[1][0][0].isNone || t[1].getNumArgs != 1 || x.isOfKind ``Lean.Parser.Term.paren || !t[2].isNone || (!x.isIdent && !t[3].isNone) then t
    else if !x.isIdent then sb 2 x t
    else
      let f := sb 3 x t
      if t[3].isNone then f else f.setArg 1 (mkNullNode ((f[1].getArgs.extract 9 99).map (·.rewriteBottomUp fun u => if u.isOfKind ``Lean.Parser.Tactic.induction then u.setArg 4 t[3] else if u.isOfKind ``Lean.Parser.Tactic.cases then u.setArg 3 t[3] else u)))
  else
    let p := t[1][0][0][0]
    if p.isOfKind ``Lean.Parser.Tactic.rcasesPat.paren && t[1][0][0].getNumArgs == 1 && t[2].isNone then sb 1 t[3][1][0] p[1] else t
open Lean in
def qqqF (ts t0 : Array (Array Name × Syntax)) (t : Syntax) : Syntax :=
  let ap (l : Array (Array Name × Syntax)) (n : Nat) (as : Array Syntax) : Syntax := match l[n]? with
    | some (ps, b) => b.rewriteBottomUp fun u => if u.isIdent then (match ps.findIdx? (· == u.getId) with | some i => as.getD i u | none => u) else u
    | none => t
  let fl (f : Syntax) (as : Array Syntax) : Syntax := if as.isEmpty then f else if f.isOfKind ``Lean.Parser.Term.app then f.setArg 1 (mkNullNode (f[1].getArgs ++ as)) else mkNode ``Lean.Parser.Term.app #[f, mkNullNode as]
  if t.isOfKind ``Lean.Parser.Term.app && t[0].isOfKind numLitKind then
    let k := (ts[t[0].toNat]?.map (·.1.size)).getD 0
    fl (ap ts t[0].toNat t[1].getArgs) (t[1].getArgs.extract k t[1].getNumArgs)
  else if t.isOfKind ``Lean.Parser.Term.app && t[0].isOfKind ``Lean.Parser.Term.app then fl t[0] t[1].getArgs
  else if t.isOfKind scientificLitKind then ap t0 (((t.isLit? scientificLitKind).getD "").replace "e" "").toNat! #[]
  else if t.isOfKind strLitKind && ((t.isStrLit?).getD "").startsWith "~" then mkNode ``Lean.Parser.Term.anonymousCtor #[mkAtom "⟨", mkNullNode #[mkNode `«term#[_,]» #[mkAtom "#[", mkNullNode (mkSepArray ((((t.isStrLit?).getD "").toList.tail.map fun c => (Syntax.mkNumLit (toString c.toNat)).raw).toArray) (mkAtom ",")), mkAtom "]"]], mkAtom "⟩"]
  else if t.isOfKind ``Lean.Parser.Tactic.cases || t.isOfKind ``Lean.Parser.Tactic.obtain then qqqC ts t
  else if t.isOfKind ``Lean.Parser.Command.universe then mkNode ``Lean.Parser.Command.end #[mkAtom "end", mkNullNode (if t[1].getNumArgs > 1 then #[t[1][1], mkNullNode] else #[])]
  else if t.isOfKind ``Lean.Parser.Command.declaration && (t[1].isOfKind ``Lean.Parser.Command.definition || t[1].isOfKind ``Lean.Parser.Command.abbrev) then t.setArg 0 (t[0].setArg 4 (mkNullNode #[mkNode ``Lean.Parser.Command.noncomputable #[mkAtom "noncomputable"]]))
  else t
open Lean in
local macro_rules (kind := Lean.Parser.Command.mutual)
  | s => do
    if s.getPos?.isNone then Macro.throwUnsupported
    let cs := (s.rewriteBottomUp fun t => match t with
      | .ident _ _ n _ => let n := n.components.foldl (fun r c => r ++ (match qqqT[c.toString]? with | some v => v.toName | none => c)) .anonymous; (qqqK n).getD (mkIdent n)
      | .node i k a => .node i (if k == ``Lean.Parser.Tactic.show then ``Lean.Parser.Tactic.refine else if k == ``Lean.Parser.Tactic.refine then ``Lean.Parser.Tactic.show else k) a
      | t => t.setInfo .none)[1].getArgs
    let mut ts := #[]
    let mut t0 := #[]
    for a in cs[0]![1][3][0][0][0].getArgs do
      let p := a[1][0].getSepArgs
      if p[0]!.isIdent then ts := ts.push (p.map (·.getId), a[3]) else t0 := t0.push (#[], a[3])
    for _ in [0:6] do
      let (a, b) := (ts, t0)
      ts := ts.map fun t => (t.1, t.2.rewriteBottomUp (qqqF a b))
      t0 := t0.map fun t => (t.1, t.2.rewriteBottomUp (qqqF a b))
    let mut m := (qqqM.toList.foldl (fun (l, b) c => (l ++ List.replicate (c.toNat - 48) b, !b)) (([] : List Bool), false)).1
    let mut r := #[]
    for c in cs.extract 1 cs.size do
      let d := c[1]
      let mut c := c
      if c.isOfKind ``Lean.Parser.Command.declaration && d.isOfKind ``Lean.Parser.Command.definition then
        if m.headD false then c := c.setArg 1 (mkNode ``Lean.Parser.Command.theorem #[d[0], d[1], mkNode ``Lean.Parser.Command.declSig #[d[2][0], d[2][1][0]], d[3]])
        m := m.tail
      r := r.push (c.rewriteBottomUp (qqqF ts t0))
    return mkNullNode r
mutual
def z
|ζ=>.y ζ false|ζ,η,θ=>de P ζ η (.N θ)|ζ=>.y ζ true|ζ=>.y ζ 0|ζ,η=>⟨ζ ,[],η⟩|ζ=>.aa (.N ζ)|ζ=>.ad ζ true|ζ=>.Y ζ F|ζ=>.ad ζ false|ζ,η=>a8 .bn ζ η|ζ=>64 ζ RV|ζ=>64 ζ bq|ζ=>38 (sm+ζ) 256|ζ=>279 (((sm+ζ).ah 256))|ζ,η=>G (.ag ζ η)|ζ,η=>a8 .cb ζ η|ζ=>.ay ζ false|ζ,η=>RV J s.M ζ η|ζ=>Cx mL sh b k ns (.X ζ)|ζ=>lk ζ k|ζ,η,θ,ι,κ=>.aS ζ ⟨η ,θ ,ι⟩ κ|ζ,η=>∀f,bP f ζ=η|ζ,η=>.aW (5 ζ) η|ζ=>ew ζ ?_|ζ,η=>84 ζ η a4|ζ=>283 ζ s|ζ,η=>30 ζ (.l η)|ζ,η,θ,ι,κ,μ,ν,ξ=>dD ζ η θ ι κ μ false ν ξ|ζ,η,θ,ι=>136 ζ η θ ι a4|ζ=>107 ζ Q E s|ζ,η=>207 28e1 ζ η|ζ,η=>bL ζ (I.du.bl η)|ζ=>dy k (.X ζ)|ζ=>.a 164 ζ|ζ,η,θ,ι=>fM P (.ag ζ η) θ ι|ζ,η,θ=>.a5 ζ (.l η) θ|ζ,η,θ=>.Y (.v ζ) η θ|ζ=>.ay ζ true|ζ,η=>2 ((ζ).ah η)|ζ=>ac ζ a4|ζ,η,θ=>d9 (101 ζ η) T θ|ζ=>aX (bg bb w) A ζ Q E s|ζ,η,θ=>R.O ζ _ p η θ|ζ,η=>JX d sc ζ F η|ζ=>aY (eL ζ)|ζ,η,θ=>cF P sh b k k1 (.X ζ) η T θ|ζ,η,θ=>150 0e6 ζ η T θ|ζ=>G (.N ζ)|ζ=>apF mL b0 sh b k ζ|ζ,η,θ=>197 6 ζ η θ|ζ,η,θ=>bD ζ (G η) (G θ)|ζ=>⟨_,ζ ,H⟩|ζ,η=>.Y 24e4 ζ η|ζ,η,θ,ι,κ,μ,ν,ξ,ρ,τ,υ,φ,χ,ψ=>⟨ζ ,η ,θ ,ι ,κ ,⟨μ ,0,ν ,ξ⟩,ρ ,τ ,υ ,⟨φ ,0,χ ,ψ⟩⟩|ζ=>D.gH _ ζ|ζ,η,θ=>263 P b ζ η θ|ζ,η,θ,ι=>Kp ζ aB η θ ι|ζ,η=>.aS 24e4 ζ η|ζ,η,θ,ι,κ=>cr ζ η θ ι (2 κ)|ζ,η=>cc ζ H ⟨H,H,H⟩ η|ζ,η,θ,ι,κ=>.bC (.bT (.l ζ) η θ) ι κ|ζ=>⟨ζ ,[]⟩|ζ=>198 T ζ|ζ,η,θ=>.bT ζ [η] θ|ζ,η=>100 ζ η Q|ζ,η=>114 ζ (.i η)|ζ,η,θ,ι=>155 ζ η θ eT 883 ι|ζ=>aX apB A ζ Q E s|ζ=>cx ζ a|ζ,η,θ,ι,κ,μ,ν,ξ,ρ=>136 ζ η θ ι (136 κ μ ν ξ ρ)|ζ,η=>Kp J ζ x s.M η|ζ=>bt b ζ|ζ=>cJ f ζ|ζ,η=>104 28e1 ζ η|ζ=>114 98 (.s ζ)|ζ=>(ci ih ζ F).aE|ζ=>Nx mL b0 b k ζ|ζ=>eB ζ ab|ζ,η=>c s (.x ζ η)|ζ=>.aD (.aD ζ)|ζ,η,θ=>.a5 ζ η (.i θ)|ζ,η,θ,ι=>de P ζ η (.y θ ι)|ζ,η=>c7 ζ η ns|ζ=>cw J h ζ us|ζ,η,θ=>ac ζ (ac η θ)|ζ,η=>{s with M:=ζ ,a0:=η}|ζ=>ai.em _ ζ|ζ,η,θ=>c9 ζ η 0e6 θ|ζ=>315 26e5 (.cG ζ 0)|ζ,η,θ=>⟨ζ ,10e5++[η],θ⟩|ζ=>9 (sm+ζ) 256|ζ=>aY (dg ζ)|ζ,η=>315 50e3 (.bv ζ η)|ζ,η,θ=>20 (.v ζ) η T [] θ|ζ,η,θ,ι=>fT (cF P sh ζ k k1 (.X η) θ T ι)|ζ,η=>35 .dv ζ (.l η)|ζ,η,θ,ι=>e7 6e2 ζ η θ ι|ζ=>259 ζ Q EE s|ζ,η,θ,ι,κ,μ,ν,ξ=>⟨46e7,ζ ,.bi ⟨η ,θ ,ι ,κ ,μ ,true,[],ν ,false,L,false⟩,ξ⟩|ζ,η,θ,ι=>.bC (.bT ζ η θ) ι []|ζ,η,θ=>aG x J s ζ η θ EE|ζ,η=>bZ sh ζ k1 η|ζ=>aX (bg pw x.w) x.A ζ Q EE s|ζ,η,θ=>118 ζ η gh 2135 θ|ζ,η,θ=>.ex (.bk ζ η θ)|ζ=>.f (.bj ζ)|ζ=>ζ<=16777216|ζ,η,θ,ι=>aL apB A ζ η θ ι|ζ,η,θ=>d3 (.X ζ) η θ|ζ,η=>D.gG.mp ζ _ η|ζ,η,θ=>h8 (eN ζ η) θ|ζ,η,θ=>.bT (.l ζ) [η] θ|ζ=>.bu C ζ|ζ,η,θ,ι=>227 40 ζ η θ ι|ζ,η=>.a1 (.l ζ) η|ζ,η,θ,ι,κ,μ,ν=>apy ζ η θ ι ⟨κ ,μ ,ν⟩|ζ=>(D.gM.mp ζ).1|ζ=>ad ζ 0e6 []|ζ,η,θ,ι,κ=>b3 (eg ζ) η (.L) θ ι κ|ζ=>.ag S1 ζ|ζ=>R.fx a ζ|ζ,η,θ,ι,κ,μ,ν=>av ζ η θ ι (36 κ μ ν)|ζ,η,θ,ι,κ,μ,ν,ξ=>fW C ζ η 5e3 C.apx.up θ ι κ μ ν 13e8 ξ|ζ,η=>.aS ζ η []|ζ,η,θ,ι=>apy ζ 60 η (.ss θ) ι|ζ=>fX (K.du.bl ζ)|ζ,η,θ=>⟨⟨ζ ,η⟩,θ⟩|ζ=>KV .cz ζ|ζ,η=>.bx (.t ζ) (.X η)|ζ,η,θ=>ac ζ (24 η θ)|ζ=>⟨ζ ,ap,by rw[s];rfl⟩|ζ,η=>ζ λv F=>η|ζ,η,θ,ι,κ=>.gV ζ [⟨η ,θ ,ι ,0⟩] κ aT|ζ,η,θ,ι,κ=>aL 6e2 ζ η θ ι κ|ζ,η,θ=>81 S8 ζ η θ|ζ,η,θ=>236 S7 ζ η θ|ζ,η,θ,ι,κ=>84 ζ η (84 θ ι κ)|ζ=>ζ->ae->Prop|ζ,η,θ,ι,κ=>ej sh ζ η θ (.a7 ι κ)|ζ,η,θ=>93 (6 ζ) η θ|ζ=>.ag 4e6 ζ|ζ,η,θ,ι=>cB (I.bX ζ η) θ ι|ζ,η,θ=>.bx (.s ζ η) θ|ζ,η,θ,ι=>155 ζ η θ gg 1438 ι|ζ,η,θ=>kS ζ (jX η θ)|ζ=>RV J h ζ u|ζ,η=>eu ζ η .cU|ζ,η,θ=>eP (hV ζ η θ)|ζ,η,θ=>gw 24e9 (138 ζ k1 [] 51 [η]) θ|ζ,η=>c9 ζ oc en η|ζ,η,θ,ι,κ=>c5 ζ (ad η 0e6 θ) ι κ|ζ,η=>s.M.gW ζ ⟨η⟩|ζ,η,θ,ι,κ,μ,ν=>115 ζ η θ (22 ι κ) μ T ν|ζ=>ζ->Prop|ζ,η,θ=>93 (8 ζ) η θ|ζ,η,θ,ι,κ,μ=>b3 (dj ζ η) θ (.L) ι κ μ|ζ,η=>Q ζ (85 h' η)|ζ=>Q ζ 36e1|ζ,η=>108 ζ η []|ζ,η,θ=>⟨ζ++[.bu 789 η],θ ,[]⟩|ζ=>229 ζ s|ζ,η=>λmL=>(ac ζ η)|ζ,η,θ=>.Y ζ (F.cM η θ)|ζ,η,θ=>.a5 ζ η (.l θ)|ζ=>aY (aL.of ζ)|ζ,η,θ,ι=>aJ x (ζ++η) θ ι|ζ,η=>ai.fy ζ s.M η|ζ=>bf (bf ζ)|ζ,η=>.aW (.g ζ) η|ζ=>cw J s.M ζ us|ζ,η,θ,ι=>jg ζ 24e5 28e2 28e2 (λB ft T=>η) (λB ft e=>θ) ar ι|ζ,η,θ=>e6 3e0 ζ η θ|ζ=>.dq id ζ|ζ=>232 76 ζ|ζ=>104 26e6 46 ζ|ζ,η=>.bu 789 [ζ ,η]|ζ=>bD ζ x app|ζ,η=>55 ζ η []|ζ,η=>.e (.l ζ) η|ζ=>s.M.O.an+ζ|ζ=>aY (bG ζ)|ζ,η=>ks (as:=ζ) cH η|ζ=>lw mL ζ|ζ=>91 (aL.of ζ)|ζ,η,θ=>ii ⟨ζ ,η ,θ⟩|ζ=>.s (lS ζ)|ζ=>lF (f:=ζ) ap|ζ=>10 (7 ζ)|ζ=>(bO.mk ζ).an|ζ,η,θ,ι=>.ff (178 ζ (.i η)) θ ι|ζ,η=>.dq (nm ζ) (fK η)|ζ,η,θ,ι,κ=>mb (d4:=ζ) η 24e5 θ (334 ι κ cH)|ζ,η,θ=>102 (jU ζ η θ)|ζ=>.k 20 [ζ]|ζ=>193 (.l ζ)|ζ,η=>.r (.k ζ η)|ζ=>235 P 32 ζ|ζ,η,θ,ι=>.bC (178 ζ (.i η)) θ ι|ζ,η=>⟨O,ζ ,η⟩|ζ,η=>aV->ai->ζ->η->Prop|ζ,η,θ=>R.bp.eU ζ η a θ|ζ,η,θ,ι,κ=>c5 0e6 (87 ζ η θ) ι κ|ζ,η=>hR 40 60 (185 ζ) η|ζ=>64 ζ RU|ζ,η=>bV ζ 11e3 (G (a+n)) η|ζ,η,θ,ι,κ,μ,ν=>.a7 ζ (138 η θ ι κ μ) ν|ζ=>295 ζ s'|ζ,η,θ=>.bx (.a ζ η) θ|ζ=>h.ak λs h=>ζ|ζ,η=>s.M.b5 (360 ζ η)|ζ,η,θ=>.a1 (.eY ζ η) θ|ζ=>λdn=>apu ζ|ζ=>234 b.aN ζ|ζ,η=>35 .cb ζ (.i η)|ζ,η=>.a5 .dv ζ η|ζ=>15 30e8 ζ|ζ=>22 1420 ζ|ζ,η=>.bk 28e1 ζ η|ζ,η=>R (.Y ζ) η|ζ=>⟨F.O,ζ ,F.bE⟩|ζ=>.v ζ 28e3|ζ,η,θ=>104 (.l ζ) η θ|ζ,η=>F.ka fz ζ η|ζ,η=>163 .f4 ζ η|ζ,η=>nN ((ζ).bh.aU η)|ζ=>.k 118 ζ|ζ=>b.eZ t ζ|ζ,η,θ,ι,κ=>152 P ζ (d+η) θ ι O κ|ζ,η=>.cu (bS ζ) (rV η)|ζ,η=>aJ x J ζ η|ζ,η=>c8 ζ a en η|ζ,η=>λmL=>(24 ζ η)|ζ,η=>35 .bn ζ (.i η)|ζ=>eB ζ x.ab|ζ,η=>bV ζ (G a) (G (a+n)) (50 η s (s+n))|ζ,η,θ=>cr ζ η 459 θ 0e6|ζ,η,θ,ι=>de P ζ η (.ag θ ι)|ζ,η,θ=>mE ζ (mE η θ)|ζ=>⟨H,ζ⟩|ζ,η=>.a1 (.ad ζ) η|ζ,η=>228 ζ (2 η)|ζ,η=>229 ζ (85 h' η)|ζ,η,θ,ι,κ,μ=>je C ζ 5e3 C.apx.up h0 η θ ι (λmL=>κ) μ 13e8 ar|ζ,η=>D.ib.mp ζ _ η|ζ=>.cV ζ 21e1|ζ=>39 (kq ζ)|ζ=>234 4e2 ζ|ζ,η,θ=>.aD ⟨ζ ,η ,θ⟩|ζ,η=>.kJ (.k ζ η)|ζ,η=>184 hs.1 ζ η|ζ,η=>.bC ζ η []|ζ,η,θ,ι=>gB (I.bX ζ η) θ ι|ζ,η=>kW (D.mJ _ _) ζ η|ζ=>g9 ζ 8e0|ζ=>.bu 726 ζ|ζ=>73 177 ζ|ζ,η,θ=>.dq (nm ζ) (lq η θ)|ζ,η=>Q (.bo ζ) η|ζ,η=>ai.kz _ ζ η|ζ,η,θ,ι=>aX 3e0 x.A ζ η θ ι|ζ,η=>aW (.bI ζ) η|ζ,η,θ=>.ec (bS ζ) (iE η θ)|ζ=>65 131 ζ|ζ,η,θ,ι,κ=>c6 (dc ζ η b.apr (.X θ) ι T κ)|ζ=>l.aj λi=>ζ|ζ=>.aP ζ .aQ|ζ=>P.bj apA.1 apA.2 ζ|ζ=>193 (33 ζ)|ζ,η=>261 1420 ζ (117 η)|ζ=>.r (.ad ζ)|ζ=>9 30e8 ζ|ζ=>22 1213 ζ|ζ,η,θ,ι,κ,μ=>aX (bg bb ζ) η θ ι κ μ|ζ=>bG (P.fJ R ζ)|ζ,η=>decide (ζ=η)|ζ,η=>bZ sh 1e2 ζ η|ζ=>162 0e6 i ζ|ζ=>.r (.X ζ)|ζ=>R.ch [] ζ|ζ=>bd.cf (ζ).aI|ζ=>79 (79 ζ)|ζ=>{s with M:=s.M.b5 ζ}|ζ=>G (fi ζ)|ζ,η=>aL 3e0 x.A ζ Q EE η|ζ=>D (am×ζ)|ζ=>I.ip (ai.cP ζ)|ζ,η=>80 .bn ζ η|ζ=>D.gi n.aI ζ|ζ=>[ζ<=16777216]|ζ=>315 53e1 (.cn ζ)|ζ,η,θ,ι,κ=>c6 (dc av ζ b.apr (.X η) θ ι κ)|ζ=>λi=>335 0 i&&bJ ζ|ζ=>104 36e2 46 ζ|ζ=>bW (bf ζ)|ζ=>bL ζ (I.lN _)|ζ,η=>165 J aB ζ η|ζ=>4 [164] ζ|ζ,η,θ,ι=>h ζ η (λz=>by subst z;exact θ) ι|ζ=>by rw[D.dY];exact ζ|ζ,η=>.ec ζ λs s l=> η|ζ=>(D.lI.mp ζ).ak|ζ=>h.ak λe h=>208 (312 ζ)|ζ,η,θ,ι,κ=>cF av sh 1e2 k ζ (.X η) θ (32 ι) κ|ζ,η=>.a1 (74 ζ) η|ζ=>decide (op= ζ)|ζ,η=>228 ζ (6 η)|ζ=>105 (.X ζ)|ζ=>360 26e5 (.cG ζ)|ζ=>360 19e6 (.cG ζ)|ζ=>λs=>G ζ|ζ,η,θ=>286 (213 ζ η) θ|ζ=>h.ak λa h=>ζ|ζ=>h.ak λx h=>ζ|ζ=>⟨m,ζ ,λk v a b=>?_⟩|ζ,η,θ,ι=>te (id:= ζ) (n:=η) (o:=θ) ar ι|ζ,η=>⟨ζ ,L,η ,#[]⟩|ζ=>λvs F=> 7 ζ|ζ=>ab.b2.bY (nm ζ)|ζ,η=>{jK with br:=rG ζ η}|ζ=>234 10e3 ζ|ζ=>l.aj λp=>ζ|ζ,η=>97 (260 ζ η)|ζ=>gt (a:=ζ) H λx=>?_|ζ=>(apv.fk a ζ).bh.aU|ζ,η=>210 (33 105) ζ η|ζ,η=>(ζ+η) % 18446744073709551616|ζ,η=>.aP ζ (265 η)|ζ,η=>360 19e6 (.cG ζ η)|ζ=>2 (11e4 ζ)|ζ,η=>336 (.aA ζ) η|ζ,η=>214 ζ (.ad η)|ζ=>209 26e5 (.cG #[ζ])|ζ,η=>218 (.bj ζ) η|ζ,η=>250 (.i6 ζ) η|ζ,η,θ=>jf (λO T=>ζ) η ar θ|ζ,η=>decide (ζ<=η)|ζ,η=>360 ζ (.cn η)|ζ=>{b with c2:= 0 ζ}|ζ,η,θ,ι,κ,μ=>R.m9 (o':= ζ) η (D.dP ..) θ ι (λk=>κ) μ|ζ=>Builtin.i7 ζ 255|ζ=>86 (86 ζ)|ζ=>I.bX p.1 ζ|ζ=>s.M.O.an<=ζ|ζ,η=>ov "bytearray" ζ η|ζ=>l.dI (λp=>ζ)|ζ=>Builtin.i7 x ζ|ζ,η,θ,ι=>aL 3e0 46e9 ζ η θ ι|ζ=>366 (h.ak λc h=>ζ)|ζ,η=>.of (k8:= "bytearray") (n:= ζ) (by rw[kD,η];kernel_rfl) 9e2 9e2 9e2|ζ=>dg (aL.of ζ)|ζ,η,θ=>{s with M:=ζ ,a0:=η+θ}|ζ,η=>I.dV ζ (I.jx η)|ζ=>6 (hD.aj ζ)|ζ=>λp=>341 ζ|ζ,η=>.aD ⟨ζ ,_,η⟩|ζ=>.aa (.bI ζ)|ζ=>.d2 (.ad ζ)|ζ=>.ei (.fA ζ)|ζ=>180 (91 ζ)|ζ,η=>s _ (D.dP ..) ζ η|ζ,η=>{bi:= ζ ,be:= η}|ζ=>9 ζ 18446744073709551616|ζ=>38 ζ 18446744073709551616|ζ=>show ζ+1<=16777216 by lia|ζ=>by rw[f0];refine ζ<=_;lia|ζ=>{aF b with aN:=212 ζ}|ζ=>311 (h.ak λb h=>ζ)|ζ,η=>(λr s'=>match r with| .Y f=>Q ζ s'| .dH e=>η)|ζ=>by rw[D.fq];exact ζ|ζ,η=>gt (a:=ζ) η λh=>?_|ζ,η,θ=>wi (b:=1e6) (S:=ζ) η (λh=>θ)|ζ,η=>.aP ζ (.aD nofun) η|ζ,η,θ,ι=>sG (r1:= .X ζ) (r2:= .X η) θ ι|ζ=>ad ζ 0e6 au|ζ=>s.M.eM tb (az.t6 ζ)|ζ,η=>{s1 with M:=ζ ,a0:=η}|ζ=>λdn=> .id ζ|ζ,η,θ=>ai.lX.bl ⟨ζ ,η ,θ⟩|ζ=>(ab.b2.bY ζ).iq|ζ=>D.kO (116 ζ)|ζ=>x.wA (x.A.hF (384 ζ))|ζ,η=>⟨ζ ,η ,by unfold CP;decide,by rw[s];rfl⟩|ζ,η=>mE ⟨ζ ,by unfold ST;decide⟩ η|ζ,η,θ,ι,κ,μ,ν,ξ,ρ=>y3 (W:=ζ) (W1:=η) (apz:=θ) (B:=ι) (B1:=κ) (λP d O T x=>ar) (λP d O T x=>ar) μ ν ξ ρ|ζ=>.bI "type.__call__" ⟨2e8::ζ ,[]⟩|ζ=>by rw[<-D.eO];exact ζ|ζ,η=>∀a o,ζ=0e4->η=0e4|ζ,η,θ,ι=>{C.apx.up with aN:=by refine(ζ).U=16\/η=32;rw[θ];exact ι}|ζ,η,θ=>nd ζ o η (λvs q=>by rw[θ]at q;cases q)|ζ,η=>w8 (gf:=am.pg "__next__") ζ η|ζ=>by rw[hL];exact ζ|ζ,η,θ=>h b ζ (λz=>by subst z;exact η) θ|ζ,η=>wu (n:=ζ) (os:=os) η|ζ=>{aF b with pk:=jo ζ 2}|ζ=>by exact K.BC ζ|ζ=>λv F=> 7 ζ|ζ,η=>.ec ζ λs os l=> η|ζ,η=>q3 (λE e h=>ζ) η|ζ=>gt ζ λh=>?_|ζ=>⟨λh=>by injection h with a b;exact ζ ,λh=>by rw[h.1,h.2]⟩|ζ,η,θ,ι,κ,μ,ν,ξ,ρ=>Du (r1:=ζ) (r2:= η) (r3:=θ) (r4:= ι) (r5:= κ) μ ν ξ (Dr (by unfold hI;decide)) ρ|ζ=>λa r=>by rw[44e9];exact ζ|ζ=>(λr s'=>match r with| .Y _=>Q ζ | .dH _=>fR)|ζ=>dM ([v]:0e0) ζ|ζ,η,θ,ι=>⟨⟨ζ ,λs=>181 η θ⟩,λs=>ι⟩|ζ=>nZ (o:=o2) ζ (by cases bH<;>rfl)|ζ,η,θ,ι=>C.apx.up.eZ ζ η (by rw[θ];exact ι)|ζ=>261 1420 0e6 ζ|ζ=>(ζ).qh (λx=>do mR x ab;zx x)|ζ=>by rw[D.lx];exact ζ|ζ=>260 "list.append" ζ|ζ=>321 "dict.update" ζ|ζ=>dM ([.y 0 false]:0e0) ζ|ζ=>show¬ζ from al.lK|ζ,η=>(λr s'=>match r with| .Y (.bj v)=>Q ζ s'| .Y _=>fR| .dH e=>η)|ζ,η=>⟨ζ ,η ,by unfold IN;decide,by rw[s];rfl⟩|ζ=>λz=>by rw[(ζ).2.2.2]at t;cases t|ζ,η,θ=>zg (w:=ζ) (h:=η) (m:=18446744073709551616) θ ap|ζ=>d0 ζ (by simp only[cj.ju]) (by simp only[cj.g7])|ζ=>by rw[ζ];exact I.lN _|ζ,η,θ,ι,κ=>D.pc ζ (λo apt x=>let r:=ih η θ ι ;κ) apt|ζ,η=>⟨λb aO e=>?_,λb aO e no=>?_,λb m n e no=>?_,λk p e=>ζ ,λk k=>jr.dG λb q e t=>η⟩|ζ=>⟨ζ ,by simp only[cj.ju,z.2.1],by simp only[cj.g7];exact I.KY z.2.2⟩|ζ=>jo ζ ((k.ak (bO.mk b).an (kL (bO.mk b).an):I):K)|ζ,η=>⟨λh=>by injection h with x app z;exact ζ ,λh=>by rw[η,h.2.1,h.2.2]⟩|ζ,η,θ,ι,κ,μ=>wb (g:=ζ) (b:=1e6) (oc:=η) (en:= θ) (au:=ι) (apt:=κ) (S:=μ) (by unfold G4;decide) (λh=>by have:=h.1;lia)|ζ=>(by first|subst ζ|(have ζ:=aq.G.cE ζ;subst ζ)|exact nN ζ|exact apI ζ|exact nF ζ|exact nG ζ|(have ζ:=PySem.af.N.cE ζ;subst ζ)|(have ζ:=aq.G.cE ζ;first|subst ζ|exact nN ζ|exact apI ζ|exact nF ζ|exact nG ζ|(have ζ:=PySem.af.N.cE ζ;subst ζ)|(injection ζ;done)|cases(ζ))|(injection ζ;done)|induction ζ using Internal.V.cD|induction ζ using Internal.aps.cD|induction ζ using PySem.af.cD|induction ζ using aq.cD|induction ζ using D.cD|induction ζ using I.cD|induction ζ using al.cD|induction ζ using Internal.RV.cD|induction ζ using Internal.cI.cD|induction ζ using Internal.R.cD|induction ζ using Internal.A.cD|induction ζ using Internal.fj.cD|induction ζ using Internal.Tk.cD|induction ζ using Internal.It.cD|induction ζ using Internal.oK.cD|induction ζ using Internal.apw.cD|induction ζ using Internal.S.cD|induction ζ using Internal.apq.cD|induction ζ using Internal.Tg.cD|induction ζ using Internal.Sh.cD|induction ζ using Internal.jZ.cD|induction ζ using Internal.Mx.cD|induction ζ using Internal.sy.cD|induction ζ using Internal.p8.cD|induction ζ using Internal.KC.cD|induction ζ using Internal.FC.cD|induction ζ using Internal.FD.cD|induction ζ using Internal.FH.cD|induction ζ using Internal.PO.cD|induction ζ using Internal.RF.cD|induction ζ using Internal.mI.cD|induction ζ using Internal.apv.cD|induction ζ using Internal.aqF.cD|induction ζ using Internal.cp.cD|induction ζ using Internal.nr.cD|induction ζ using K.cD|induction ζ using Or.cD|induction ζ using i3.cD|induction ζ using Exists.cD|induction ζ using kC.cD|induction ζ using Except.cD|induction ζ using PySem.fQ.cD|induction ζ using rg.cD|induction ζ using PySem.rI.cD|induction ζ using PySem.jl.cD|induction ζ using PySem.pL.cD|induction ζ using PySem.aZ.cD|induction ζ using PySem.ck.cD|induction ζ using PySem.Frame.cD|induction ζ using PySem.i9.cD|induction ζ using PySem.iK.cD|induction ζ using PySem.b4.cD|induction ζ using PySem.uU.cD|induction ζ using cj.cD|induction ζ using Internal.tH.cD|induction ζ using Internal.KN.cD|induction ζ using Internal.vu.cD|induction ζ using Internal.Ri.cD|induction ζ using Internal.xU.cD|induction ζ using Internal.KP.cD|induction ζ using Internal.Bp.cD|induction ζ using Internal.Rj.cD|induction ζ using Internal.mD.cD|induction ζ using Internal.fnE.cD|induction ζ using Internal.fcE.cD|cases(ζ))|ζ=>(by first|(have zh:=Eq.bh ζ;subst zh)|cases(ζ))|ζ=>(by(show XU λ zG zf=>?_;(rcases ζ with ζ)<;>show zf ?_))|_=>D V|_=>D (I×V)|_=>2 a|_=>2 n|_=>G o|_=>137 af|_=>.aa .L|_=>0 0|_=>2 s|_=>160 F|_=>D aps|_=>0 t|_=>aF b|_=>0 1|_=>3 0|_=>0 c|_=>aF (lw mL b)|_=>b1 b|_=>0 2|_=>.b false|_=>16 []|_=>D cp|_=>.N a|_=>.i 0|_=>D af|_=>G v|_=>.a2 H|_=>.ag cL|_=>.N C|_=>R A|_=>bc x|_=>dw _ ?_|_=>R V|_=>R α|_=>0 3|_=>.i 1|_=>x.Ok d|_=>.Z 59|_=>0 5|_=>.ag cZ|_=>0 16|_=>0 17|_=>b.aN.aj bA|_=>dW ?_|_=>s.M.ao a|_=>6 S|_=>nm n|_=>.i 2|_=>I->aps|_=>D bd|_=>.ay B ft|_=>G p|_=>((b.tb t).U:K)|_=>bt.b7 b|_=>ek x ab|_=>nm k|_=>D (V×V)|_=>.X []|_=>0 65|_=>.l 42|_=>.Z 60|_=>D Prop|_=>bg bb w|_=>.Z 5|_=>.bv []|_=>0 i|_=>2 x|_=>.b true|_=>230 b cA|_=>.aA "object"|_=>(18e3).2|_=>Sort _|_=>.N p.1|_=>ed t|_=>k+1<b.B.U|_=>(18e3).1|_=>x.ah 24|_=>λs=>al|_=>.ag z|_=>.Z 51|_=>KL P|_=>dJ dn|_=>a.ah 3|_=>0 19|_=>D α|_=>aq K|_=>0 64520|_=>0 64524|_=>s.M.ao b|_=>.q false|_=>6 B|_=>ai.cP e|_=>by decide+cm|_=>.l 207|_=>aH×11e9|_=>b4 α|_=>aq V|_=>.N e|_=>gr P|_=>.N s.M.O.an|_=>ai.fF _ H|_=>.Z 1|_=>(b.aN.U:K)|_=>b.tb t|_=>D PySem.aZ|_=>ea apr S B|_=>.Z 50|_=>0 q|_=>0 4|_=>0 (-2)|_=>8 []|_=>D ck|_=>gU P|_=>G a|_=>(30e8).aK|_=>0 e|_=>aq.G.cE e|_=>I.eC _|_=>h'.ao b|_=>D aH|_=>G 22e6|_=>a.aK 7|_=>137 β|_=>G .cU|_=>aq af|_=>.ss b|_=>2 o|_=>a.ah 12|_=>2 0|_=>0 (-1)|_=>im P|_=>∀p∈b9,p|_=>228 459 0e6|_=>2 fa|_=>.Z 2|_=>.Z 3|_=>.Z 4|_=>ir _ ?_|_=>λmL=>rfl|_=>75 e|_=>182 b|_=>71 b0|_=>68 J|_=>fO ih d|_=>h.ao a|_=>.ag h7|_=>137 α|_=>λe s'=>R (.dH e) s'|_=>2 i|_=>.aa _|_=>hh sh|_=>282 b|_=>238 H|_=>72 v|_=>.l 9|_=>D Internal.S|_=>.aD 2e6|_=>17 v u|_=>o2 P|_=>.Z i|_=>ia i|_=>0 64523|_=>a.aK 3|_=>0 35|_=>dm 10e3 a|_=>bO af|_=>.i 16|_=>.i 64|_=>.i 65|_=>0 7|_=>.l 6|_=>0 app|_=>0 64|_=>137 ey|_=>.l 98|_=>iZ ar|_=>65 43 1|_=>α->β->Prop|_=>199 α β|_=>.i 4|_=>nS e|_=>fc k|_=>i0 sm apr B B2 bN|_=>ba h|_=>h'.ao a|_=>b.tb app|_=>.Z O.U|_=>F.dL i|_=>G .dk|_=>.no w|_=>(30e8).ah|_=>19 T|_=>nN e|_=>hI t|_=>dy k bw|_=>j0 x ab|_=>.aA "list"|_=>.aD ⟨_,_,H⟩|_=>b.fI i 0e6|_=>a.ah 7|_=>a.ah 8|_=>37 []|_=>153 α|_=>bW ?_|_=>gk xs|_=>nm 58|_=>⟨b⟩|_=>ke s|_=>82 b k|_=>0 64522|_=>2 5e2|_=>.Z 11|_=>a.ah 2|_=>0 11|_=>0 36|_=>0 66|_=>.aD H|_=>.i 32|_=>.Z 13|_=>7 v|_=>230 b h|_=>F.O[i]?|_=>145 v|_=>bW h|_=>kt t|_=>.aA "BaseException"|_=>.bo true|_=>.aA "Exception"|_=>2 10e2|_=>.bk 36e2 50 []|_=>G (.bI "object.__new__")|_=>0 apr|_=>b.fI i (.cg dt)|_=>b.fB e (6 dt)|_=>182 b'|_=>G .eG|_=>D apw|_=>bf ?_|_=>b.fB e 0e6|_=>262 1|_=>.N (179 1)|_=>α->β->γ->Prop|_=>.i 3|_=>dT p|_=>.f .bz|_=>I.cy H|_=>{s with a0:=k}|_=>by exact 24e5|_=>7 24e4|_=>(101 b []).U|_=>.ad []|_=>⟨_,H⟩|_=>[aC.U+1<=16777216]|_=>.ag j9|_=>.l 126|_=>44 ?_|_=>(x.aI:K)|_=>.a2 h|_=>.l 43|_=>(16e2).aK|_=>5 a|_=>R ey|_=>D iO|_=>(26e9).2|_=>gP R|_=>.aA "tuple"|_=>33 132|_=>.aA "bytearray"|_=>λa a h'=>h'|_=>aG.ch P|_=>.aA "bytes"|_=>.cn vs|_=>([]:0e0)|_=>0 (-16)|_=>ba 31e9|_=>aY ?_|_=>.Z 15|_=>11 r|_=>233 E|_=>(ba 7e0).1|_=>.ay B2 bN|_=>.l 164|_=>λs=>rfl|_=>.bk 26e6 50 []|_=>λe=>rfl|_=>D.lA 11e7|_=>D.cY.bl H|_=>0 64526|_=>nU C s.M.O.an|_=>.ag lh|_=>0 32|_=>137 al|_=>180 ?_|_=>284 aH|_=>62 o1|_=>⟨us⟩|_=>aq α|_=>.N sl|_=>.aa u|_=>.l 49|_=>.Z 56|_=>.Z 57|_=>b.m i|_=>75 a|_=>127 v|_=>dN bR r|_=>373 b|_=>ee ts aC|_=>x.aK 24|_=>by rw[k9];kernel_rfl|_=>.bo false false|_=>aq.ha.mp e|_=>280 2e6|_=>x.A.hF _|_=>2 b.c1|_=>2 b.c0|_=>KO app|_=>G ab.cX|_=>D (apv×af)|_=>(ba 7e0).2|_=>I.nC _|_=>a.ah 5|_=>.au cN|_=>48 au|_=>76 []|_=>70 [] h'|_=>⟨aO⟩|_=>it.at F k|_=>bG ?_|_=>.N 38|_=>.N it|_=>(1e2).eZ|_=>oc mL|_=>86 e|_=>D (K×V)|_=>by rw[h];rfl|_=>∀p∈ob,p|_=>ab.dA 5e5|_=>.bo false|_=>0 64529|_=>2 b.e9|_=>(".0" :am)|_=>.q true|_=>aq (al×al)|_=>G 17e1|_=>(s.M.O.an,[])|_=>nm 100|_=>r.aE f|_=>137 iK|_=>D (I×α)|_=>0 (-17)|_=>71 b'|_=>dN bR r1|_=>(s.M.b5 nT).b5|_=>kY ap|_=>.l 58|_=>.l 93|_=>nm 31|_=>117 b|_=>403 n|_=>.aW g as|_=>{s with M:=h'}|_=>.l 132|_=>b'.aN.aj bA|_=>aq.k7.mp e|_=>KL x.w.bU|_=>D.dR n.aI|_=>.gZ 3e5|_=>2 30e8|_=>79 2e6|_=>s.M.ao e|_=>s.M.ao c|_=>aq 0e0|_=>.v 17e1|_=>ab.dA n|_=>3 181|_=>.a 207 182|_=>G p.2|_=>V.y i true|_=>I.qj _|_=>.l 139|_=>a.ah 4|_=>0 37|_=>137 δ|_=>8 pF|_=>153 β|_=>70 aB s'.M|_=>.v 6 (65 43 0)|_=>apv->V->Prop|_=>x.A.dX.aj _|_=>I.hZ hL.bh|_=>fn.jp as.U|_=>x.ab.dA id|_=>0 64527|_=>2 8e2|_=>.cu (bS 459) (rX 2e7)|_=>.cu (bS 459) (rX 3e9)|_=>λi=>i|_=>[s.M.O.an]|_=>∃l,x.A.dX=G l|_=>(b8 [v]:b4 2e4)|_=>KW w.bU|_=>jl×apw|_=>0 apt|_=>(apt.U:K)|_=>7 ()|_=>I.rH _|_=>d6 app|_=>6 []|_=>39 bM|_=>48 aC|_=>72 en|_=>7e6==10|_=>.aA "bytearray_iterator"|_=>.bI "Exception.__new__"|_=>(((b.aN.aj bA)).U:K)|_=>x.ab.dA 5e5|_=>by rw[w];rfl|_=>aq PySem.aZ|_=>λh=>rfl|_=>cj.ry x.w.bU 4e6|_=>{s with a0:=s.a0+1}|_=>279 (s % 256)|_=>b8 false|_=>(ps.aj nm).fw|_=>fo 7e5|_=>I.fZ q|_=>.aA apq|_=>h'.ao e|_=>D.dR 51|_=>D.dR 62|_=>0 209|_=>33 155|_=>33 162|_=>106 l.U|_=>.l 108|_=>.au au|_=>K.rN k|_=>qZ apq|_=>137 md|_=>37 cN|_=>7e6==11|_=>x.ab.br=sc|_=>161 bM a4|_=>.aA "StopIteration"|_=>((bO.mk aO).an:K)|_=>0 4294967295|_=>{b with c2:= 0e6}|_=>{b with apr:=1}|_=>D.cY.mp r|_=>apz.x 7e5|_=>λ_=>rfl|_=>λg=>rfl|_=>I.ip 9e1|_=>.aA "zip"|_=>K.jV.mp s|_=>105 47e0|_=>x.aK 100|_=>dt.aj bA|_=>α->β->γ->δ->Prop|_=>.r (.c 31e0)|_=>m.iT 50e7 l|_=>bS 1213|_=>jt.mp q|_=>h0.ao a|_=>λa p=>(W a p).1|_=>bD S L (G 6)|_=>.aA "type"|_=>∀mL,∀p∈nk mL,p|_=>x.A.hW ab|_=>.bo true false|_=>.aA "enumerate"|_=>.aA "function"|_=>h'.ao s.M.O.an|_=>λh h h'=>h'|_=>n % 4294967296|_=>by rw[h]<;>rfl|_=>s.kH 2e2 "bytearray"|_=>dM ([.y (s.ah 256) true]:0e0) n|_=>{s with M:=h1}|_=>λi=> 14e8|_=>bd.cf i.aI|_=>al.mB.mp h|_=>λmL=>a4|_=>λt=>rfl|_=>386 4e4 (s1.M.ao a)|_=>A.hF (384 us)|_=>0 64521|_=>0 64528|_=>0 64525|_=>0 b.apr|_=>((k+1:I):K)|_=>.d2 25e0|_=>km C s.M.O.an|_=>0 8e2|_=>0 31e6|_=>2 7e6|_=>6 47e8|_=>182 1e2|_=>319 27e2|_=>386 4e4 18e4|_=>P.jS R _ (.y ..)|_=>2 (x.ah 100)|_=>.aA "dict"|_=>n % 18446744073709551616|_=>((lo.ak 0 (kL us.U):I):K)|_=>λh h q=>q.ak|_=>λl p=>iS l p.1 p.2|_=>D Internal.apq|_=>((b.tb app).U:K)|_=>342 s1.M.O.an|_=>qr ?_ (by size_fits)|_=>{b with apr:=3}|_=>386 14e4 18e4|_=>af.aA "list"|_=>λa a z=>z|_=>23 (yy ..)|_=>am.pg "law"|_=>(aq.p7 ..).mp|_=>(∀p∈ob,p)|_=>ai.tT 11e7|_=>apz.x 27e9|_=>λr=>rfl|_=>C.apx.tb s|_=>360 50e3 (.bv #[])|_=>aq.G.cE h|_=>λp=>37e7|_=>D.cY.mp h|_=>D.cY.mp q|_=>λi=>37e8|_=>oT P.nO.1|_=>.aA "code"|_=>(⟨w,mP.hW ab,ab,s.os,false⟩:Fx)|_=>((lo.ak 0 (kL (bO.mk b).an):I):K)|_=>by unfold dT;rw[q];simp|_=>Dq ap (by unfold hI;decide)|_=>sm.ah 4294967296|_=>((b.aN.aj bA).U:K)|_=>.aA "traceback"|_=>λx x h'=>h'|_=>Internal.R α|_=>λx x h=>h|_=>by rw[p];lia|_=>by rw[s];rfl|_=>λh h e=>e|_=>Ov.Ow s₀.M|_=>23 (Mr ..)|_=>C1 (λP d O T=>ar) 24e5|_=>{s with a0:=t}|_=>((b.tb x).U:K)|_=>R.lv e λes n q=>by rw[hd]at q;cases q|_=>af.bI "BaseException.__getattribute__"|_=>qV ⟨λh=>by injection h,λh=>by rw[h]⟩|_=>(match f with| .bj v=>v|_=> .L)|_=>G (.bI "object.__setattr__")|_=>bL s (by unfold Q3;decide)|_=>.bI "type.__call__"|_=>l.aj Internal.apq.n|_=>DE ?_ (by intro x;cases x)|_=>λq e=>by rw[42e6,<-e];rfl|_=>("__classdict__" :am)|_=>W.to λa p=>?_|_=>K×K×K×K×K×K|_=>R.lv u λapA apA q=>by rw[hd]at q;cases q|_=>R.lv j λes n q=>by rw[hd]at q;cases q|_=>P.aE λa aR v s1 u1 b w r1 e=>?_|_=>r7 λvs q=>by rw[hd]at q;cases q|_=>I.cy (by cases sh<;>kernel_rfl)|_=>("bytearray.__release_buffer__" :fS)|_=>af.bI "object.__getattribute__"|_=>r7 λvs e=>nomatch h.bh.aU e|_=>⟨ob,e,by cases ob<;>first|rfl|exact P.ak⟩
section
def nN{α:Type}{a:α}{C:Prop}(e:L=11e3):C:=bL e nofun
def apI{α:Type}{a:α}{C:Prop}(e:11e3=L):C:=bL e nofun
def nF{C:Prop}(e:false=true):C:=al.Oz e
def nG{C:Prop}(e:true=false):C:=al.Oz e
def XU{P:Prop}(h:∀apx:Prop,(P->apx)->apx):P:=h P id
universe e
section
def oA{P:Prop}{Q:Prop}{apx:Prop}(h:P/\Q)(g:P->Q->apx):apx:=208 (g s h)
def oE{α:7e1}{P:20e2}{apx:Prop}(h:∃a:α,P a)(g:∀a:α,P a->apx):apx:=311 (g a h)
def aM{α:7e1}{P:20e2}{Q:20e2}{apx:Prop}(h:∃a:α,P a/\Q a)(g:∀a:α,P a->Q a->apx):apx:=311 (208 (g a s h))
def qe{α:7e1}{β:7e1}{P:17e7}{apx:Prop}(h:∃a:α,∃b:β,P a b)(g:∀a:α,∀b:β,P a b->apx):apx:=366 (g a b h)
def hT{P:Prop}{Q:Prop}{R:Prop}{apx:Prop}(h:P/\Q/\R)(g:P->Q->R->apx):apx:=312 (208 (g x s h))
def sM{α:7e1}{P:Prop}{Q:20e2}{apx:Prop}(h:P/\∃a:α,Q a)(g:P->∀a:α,Q a->apx):apx:=208 (311 (g s a h))
def dU{α:7e1}{P:20e2}{Q:20e2}{R:20e2}{apx:Prop}(h:∃a:α,P a/\Q a/\R a)(g:∀a:α,P a->Q a->R a->apx):apx:=311 (312 (208 (g a x s h)))
def gd{α:7e1}{β:7e1}{P:17e7}{Q:17e7}{apx:Prop}(h:∃a:α,∃b:β,P a b/\Q a b)(g:∀a:α,∀b:β,P a b->Q a b->apx):apx:=366 (208 (g a b s h))
def nn{α:7e1}{β:7e1}{γ:7e1}{P:24e1}{apx:Prop}(h:∃a:α,∃b:β,∃c:γ,P a b c)(g:∀a:α,∀b:β,∀c:γ,P a b c->apx):apx:=347 (g a b c h)
def lG{P:Prop}{Q:Prop}{R:Prop}{S:Prop}{apx:Prop}(h:P/\Q/\R/\S)(g:P->Q->R->S->apx):apx:=301 (g e s x h)
def jz{α:7e1}{β:7e1}{P:17e7}{Q:17e7}{R:17e7}{apx:Prop}(h:∃a:α,∃b:β,P a b/\Q a b/\R a b)(g:∀a:α,∀b:β,P a b->Q a b->R a b->apx):apx:=366 (312 (208 (g a b x s h)))
def ol{α:7e1}{β:7e1}{γ:7e1}{P:24e1}{Q:24e1}{apx:Prop}(h:∃a:α,∃b:β,∃c:γ,P a b c/\Q a b c)(g:∀a:α,∀b:β,∀c:γ,P a b c->Q a b c->apx):apx:=347 (208 (g a b c s h))
def gp{α:7e1}{P:Prop}{Q:Prop}{R:20e2}{S:20e2}{apx:Prop}(h:P/\Q/\∃a:α,R a/\S a)(g:P->Q->∀a:α,R a->S a->apx):apx:=h.ak λe h=>208 (311 (312 (g e s a x h)))
def gD{α:7e1}{β:7e1}{P:20e2}{Q:20e2}{R:17e7}{apx:Prop}(h:∃a:α,P a/\Q a/\∃b:β,R a b)(g:∀a:α,P a->Q a->∀b:β,R a b->apx):apx:=311 (312 (208 (h.ak λb h=>g a x s b h)))
def sN{α:7e1}{P:20e2}{Q:20e2}{R:20e2}{S:20e2}{apx:Prop}(h:∃a:α,P a/\Q a/\R a/\S a)(g:∀a:α,P a->Q a->R a->S a->apx):apx:=311 (301 (g a e s x h))
def zq{P:Prop}{Q:Prop}{R:Prop}{S:Prop}{apq:Prop}{apx:Prop}(h:P/\Q/\R/\S/\apq)(g:P->Q->R->S->apq->apx):apx:=301 (h.ak λs' h=>g e s x s' h)
def jA{α:7e1}{β:7e1}{P:17e7}{Q:17e7}{R:17e7}{S:17e7}{apx:Prop}(h:∃a:α,∃b:β,P a b/\Q a b/\R a b/\S a b)(g:∀a:α,∀b:β,P a b->Q a b->R a b->S a b->apx):apx:=366 (301 (g a b e s x h))
def uB{α:7e1}{β:7e1}{γ:7e1}{P:24e1}{Q:24e1}{R:24e1}{apx:Prop}(h:∃a:α,∃b:β,∃c:γ,P a b c/\Q a b c/\R a b c)(g:∀a:α,∀b:β,∀c:γ,P a b c->Q a b c->R a b c->apx):apx:=347 (312 (208 (g a b c x s h)))
def kX{α:7e1}{β:7e1}{γ:7e1}{P:24e1}{Q:24e1}{R:24e1}{S:24e1}{apx:Prop}(h:∃a:α,∃b:β,∃c:γ,P a b c/\Q a b c/\R a b c/\S a b c)(g:∀a:α,∀b:β,∀c:γ,P a b c->Q a b c->R a b c->S a b c->apx):apx:=347 (301 (g a b c e s x h))
def OB{α:7e1}{β:7e1}{γ:7e1}{δ:7e1}{P:45e9}{Q:45e9}{R:45e9}{apx:Prop}(h:∃a:α,∃b:β,∃c:γ,∃d:δ,P a b c d/\Q a b c d/\R a b c d)(g:∀a:α,∀b:β,∀c:γ,∀d:δ,P a b c d->Q a b c d->R a b c d->apx):apx:=347 (h.ak λd h=>312 (208 (g a b c d x s h)))
def qf{α:7e1}{β:7e1}{γ:7e1}{δ:7e1}{P:45e9}{Q:45e9}{R:45e9}{S:45e9}{apx:Prop}(h:∃a:α,∃b:β,∃c:γ,∃d:δ,P a b c d/\Q a b c d/\R a b c d/\S a b c d)(g:∀a:α,∀b:β,∀c:γ,∀d:δ,P a b c d->Q a b c d->R a b c d->S a b c d->apx):apx:=347 (h.ak λd h=>301 (g a b c d e s x h))
def uC{α:7e1}{β:7e1}{P:17e7}{Q:17e7}{R:17e7}{S:17e7}{apq:17e7}{apx:Prop}(h:∃a:α,∃b:β,P a b/\Q a b/\R a b/\S a b/\apq a b)(g:∀a:α,∀b:β,P a b->Q a b->R a b->S a b->apq a b->apx):apx:=366 (301 (h.ak λs' h=>g a b e s x s' h))
def zr{P:Prop}{Q:Prop}{R:Prop}{S:Prop}{apq:Prop}{apA:Prop}{apx:Prop}(h:P/\Q/\R/\S/\apq/\apA)(g:P->Q->R->S->apq->apA->apx):apx:=301 (h.ak λs' h=>h.ak λt' h=>g e s x s' t' h)
def sO{α:7e1}{β:7e1}{γ:7e1}{P:24e1}{Q:24e1}{R:24e1}{S:24e1}{apq:24e1}{apA:24e1}{apx:Prop}(h:∃a:α,∃b:β,∃c:γ,P a b c/\Q a b c/\R a b c/\S a b c/\apq a b c/\apA a b c)(g:∀a:α,∀b:β,∀c:γ,P a b c->Q a b c->R a b c->S a b c->apq a b c->apA a b c->apx):apx:=347 (301 (h.ak λs' h=>h.ak λt' h=>g a b c e s x s' t' h))
universe e
section
open PySem PySem.W PyProof.Rows
set_option backward.match.sparseCases false
def DA{a b:al}(h:a=true)(k:b=true):(a&&b)=true:=by rw[h,k];rfl
def said':PySem.W.np.OC PySem.Challenge.rw_nm0174_01=true:=by
 delta PySem.W.np.OC;refine(_&&_)=true;show DA ?_ ?_
 ·delta PySem.W.np.tw17960256430627541270 PySem.W.np.tw2436336058641802641 PySem.W.np.tw12908688711261696721;refine(_&&_)=true;repeat' (with_reducible show DA ?_ ?_)
  all_goals as_aux_lemma=>kernel_rfl
 ·repeat' (with_reducible show DA ?_ ?_)
  all_goals as_aux_lemma=>kernel_rfl
def said:PySem.Challenge.rw_nm0174_01.zs=true:=by
 rw[show @PySem.W.OD.zs=PySem.W.np.OC from PySem.W.np.te9446332074065402090];exact said'
universe e
section
open PySem
set_option backward.match.sparseCases true
def zt:fQ->al
 | .bI id _=>Builtin.dK.wv.hU id
 |_=>false
def Cl(l:D (fQ×dz)):Prop:=∀c∈l,zt c.1=false
def aL{α:Type}(apB:iz)(A:df)(t:9e5)(Q:14e6)(E:0e5)(s:ae):Prop:=
 ∀Γ p,Γ.In A->zt Γ.dG=false->Cl Γ.uD->b4.wp apB Γ t (λa h s'=>Q a s') (λe h s'=>E e s') p s
def e7(apB:iz)(A:df)(c:fQ)(R:43e9)(s:ae):Prop:=
 ∀Γ p,Γ.dG=c->Γ.Below A->Cl Γ.uD->wpCode apB Γ R p s
section
variable{α β:Type}{apB:iz}{A:df}{E:af->ae->Prop}{s:ae}
def aL.of{t:9e5}{Q:14e6}(h:67 t):29 t:=λΓ p x e e=>h Γ p x
def ew{m m':9e5}{Q:14e6}(h:m=m')(apz:29 m'):29 m:=h▸apz
def qg{m m':9e5}{Q:14e6}(h:m=m')(apz:67 m'):67 m:=h▸apz
def bG{a:α}{Q:14e6}(h:Q a s):29 (b8 a):=λx x x x x=>h
def XV{e:af}{Q:14e6}(h:E e s):29 (throw e:9e5):=λx x x x x=>h
def eW{t:9e5}{Q b:14e6}{x:0e5}(h:29 t)
  (hQ:∀a s,Q a s->b a s) (hE:∀e s,E e s->x e s):107 t b x s:=
 λΓ p m hd r=>b4.zu apB Γ t (λa k s=>hQ a s) (λe k s=>hE e s) p s (h Γ p m hd r)
def aY{m:9e5}{f:α->b4 β}{Q:12e2}(h:107 m (λa s'=>107 (f a) Q E s') E s):
  29 (m>>=f):=λΓ p b hd x=>by
 rw[b4.wp_bind'];exact b4.zu apB Γ m (λa r s' h'=>h' Γ r b hd x) (λe e e h'=>h') p s (h Γ p b hd x)
def eP{m:9e5}{f:α->b4 β}{Q:12e2}(h:aX apB A m (λa s'=>107 (f a) Q E s') E s):
  29 (m>>=f):=164 h
def pR(apB:iz)(A:df)(k:α->b4 β)(Q:12e2)(E:0e5):14e6:=λa s'=>ku->107 (k a) Q E s'
def fe{m:9e5}{f:α->b4 β}{Q:12e2}(h:aX apB A m (pR apB A f Q E) E s):29 (m>>=f):=147 h (λx x h=>h dZ) 54e1
def me{c:Prop}[rg c]{t e:9e5}{Q:14e6}(h:¬c)(apz:ku->ku->29 e):29 (ff c t e):=ew (d5 h) (apz ⟨⟩ ⟨⟩)
def thR{c:Prop}[rg c]{t e:9e5}{Q:14e6}(h:c)(apz:29 t):29 (ff c t e):=ew (eX h) apz
def apJ(apB:iz)(A:df)(k:α->b4 β)(Q:12e2)(E:0e5):14e6:=λa s'=>ku->aX apB A (k a) Q E s'
def cK{m:9e5}{f:α->b4 β}{Q:12e2}(h:aX apB A m (apJ apB A f Q E) E s):67 (m>>=f):=bf (hV h (λx x h=>h dZ) 54e1)
def sP{c:Prop}[rg c]{t e:9e5}{Q:14e6}(h:¬c)(apz:ku->ku->67 e):67 (ff c t e):=qg (d5 h) (apz ⟨⟩ ⟨⟩)
def pa{c:Prop}[rg c]{t e:9e5}{Q:14e6}(h:c)(apz:67 t):67 (ff c t e):=qg (eX h) apz
def iJ{m:9e5}{f:α->b4 β}{Q:12e2}(h:107 m (pR apB A f Q E) E s):29 (m>>=f):=aY (eW h (λx x h=>h dZ) 54e1)
def uE{c:Prop}[rg c]{t e:9e5}{Q:14e6}(h:¬c)(apz:29 e):29 (ff c t e):=ew (d5 h) apz
def kY{c:Prop}[rg c]{t e:9e5}{Q:14e6}(h:¬c)(apz:67 e):67 (ff c t e):=qg (d5 h) apz
def ww{m:9e5}{k:af->b4 ey}{Q:14e6}
  (h:107 m Q (λe s'=>107 (k e) (λx n=>E e n) E s') s):29 (m.qh k):=λΓ p b hd a=>by
 rw[b4.wp_onRaise];exact b4.zu apB Γ m (λx x x h'=>h') (λe r s' h'=>h' Γ r b hd a) p s (h Γ p b hd a)
def wx{m:9e5}{Q:Except af α->ae->Prop}(h:107 m (λa=>Q (.Y a)) (λe=>Q (.dH e)) s):
  29 m.DB:=λΓ p b hd x=>by rw[b4.wp_attempt];exact h Γ p b hd x
def dg{vs:2e4}{m:9e5}{Q:14e6}(h:29 m):29 (gq vs m):=
 λΓ p e hd x=>by rw[b4.wp_holding];exact h Γ p e hd x
def XW{vs:2e4}{m:9e5}{Q:14e6}(h:29 m):29 (m.bR vs):=
 λΓ p e hd x=>by rw[b4.wp_keep];exact h Γ p e hd x
def eL{aT:dz}{Q:17e3}(h:Q () s):29 (kw aT):=λx x x x x=>h
def Cl.sQ{Γ:Ctx}{p:dz}(hd:zt Γ.dG=false)(s:Cl Γ.uD):Cl ((Γ.dG,p)::Γ.uD):=by
 intro c x;rcases D.eR.mp x with H|h
 ·exact hd
 ·exact s c h
def DC{c:fQ}{h:12e4}{Q:34e8}
  (hc:e7 apB (A.mark h) c (367 f (E e s')) s) (DD:h≠G byPass):
  29 (dh c h):=
 λΓ p a hd x=>by rw[b4.wp_run];exact hc _ p H (a.sQ c h p DD) (Cl.sQ hd x)
def XX{c:fQ}{Q:0e5}
  (hc:e7 apB A c (414 v (E e s')) s):
  29 (runValue c):=λΓ p a hd h=>by rw[b4.wp_runValue];exact hc _ p H (a.sQ c L p (by intro x;cases x)) (Cl.sQ hd h)
def rh{f:af}{aT:2e4}{h:284 af}{Q:0e5}
  (hc:e7 apB A (.aW f ⟨aT,h⟩) (414 v (E e s')) s):
  29 (aW f aT h):=XX hc
def mf{c:fQ}{R:43e9}(hd:zt c=false)
  (h:aL apB (A.hF c) (apB.g6 c) (λef s'=>match ef with| .kx f=>218 f s'| .mg x=>x.sR=true/\e7 apB A x R s')
   (14e7) s):e7 apB A c R s:=λΓ p a r b=>by
 rw[wpCode_iff_wp,a];show b4.zu apB Γ _ (λef m s' h'=>?_) (λk k k h'=>h') p s (h Γ p (a▸r.in) (a▸hd) b);cases ef with
 |done f=>exact h'
 |mg x=>exact⟨h'.1,h'.2 (Γ.goto x) m H (r.goto x) b⟩
def zv{c:fQ}{R x:43e9}(h:e7 apB A c R s)(a:∀r s,R r s->x r s):e7 apB A c x s:=
 λΓ p k b e=>wpCode_mono a (h Γ p k b e)
def zw{ab:ez}{m:9e5}{Q:14e6}(h:107 m Q (j4 apB A ab E) s):29 (m.qh λx=>do mR x ab;zx x):=
 ww (eW h (λa a q=>q) λa a b=>aL.of (bf (hV b (λa a e=>wpAny_theTreesLotGoes e) λa a e=>e)))
def DE{ab:ez}{c:fQ}{h:12e4}{Q:34e8}
  (hc:e7 apB (A.mark h) c (367 f (zy apB A ab E e s')) s) (DD:h≠G byPass):
  29 (zA c ab h):=by
 unfold zA;exact ww (eW (DC hc DD) (λx x q=>q) λx x h=>aL.of h)
def wy(A:df):A.mark L=A:=by
 cases A;rfl
universe e
section
variable{bb:gR}{w:eA}{A:df}{E:af->ae->Prop}{s:ae}{R:md->ae->Prop}
def OE{mS:11e1}{ab:ez}
  (h:133 A (mh mS ab) (λf s'=>218 f s') (j4 6e2 A ab 14e7) s):96 A (.DF mS ab) R s:=by
 show mf H ?_;refine aL _ _ (do return ky.kx (<-408 (mh mS ab))) _ _ s;exact aY (zw (eW h (λf s' h'=>bG h') 26e8))
def OF{cW:11e1}{ab:ez}
  (h:aL 6e2 (A.hW ab) (mh cW ab) (λf s'=>332 55e3 s')
   (λe s'=>272 w (A.hW ab) (rj ab e) (λa x=>R (.dH e) x) (λb x=>R (.dH b) x) s') s):
  96 A (.mi cW ab) R s:=by
 show mf H ?_;refine aL _ (A.hW ab) (do wz;match<-(mh cW ab).qh (rj ab)with| .bj v=>bj v|_=>bj .L) _ _ s;show 164 (OG (aY (ww (eW h (λf s' h'=>?_) λa a h'=>aL.of h'))));cases f<;>exact bG h'
def OH{a:aH}{b:Args}{o:az}{fd:jB}{cW:11e1}(j:A.g7<DG)
  (ho:4e4=0e4)
  (DH:o.be= .mi fd) (wB:fd.br.zB=false) (DI:fd.br.zC=false) (DJ:fd.cW= .mS cW) (qi:s.M.zD fd.dG fd.pb)
  (h:aX (bg bb w) A.fg (DL fd b) (λk n=>
   aX (6e2) A.fg (zE fd.br fd.g8 fd.rk k (fd.pb++ ".<locals>.") 11e3 fd.dG L fd.jC)
    (λab r=>r.M.OI/\96 A (.mi cW ab) R r) (14e7) n) 14e7 s):
  96 A (.aW 2e2 b) R s:=by
 show mf H ?_;refine aL _ A.fg (sS 2e2 b) _ _ s;dsimp-fs only[sS];show eP (rm ho ?_);(show qf qi λc oc vs d v i q u=>?_;try clear qi);simp only[DH,XY,wB,DI,DJ,v];rw[v]at h;show eP (m:=ro (.N c) 1) (hG i q u 29e2);exact 147 h (λk n l=>147 l (λab r p=>eP (XZ p.1 j
  (bG (i3.nq H p.2)))) 53e9) 53e9
def zF{a:aZ}{cW:11e1}{ab:ez}
  (h:aL 6e2 A (sT a ab (77 a)) (λb n=>
    if b then 133 A (mh cW ab) (λf k=>match f with
      | .bz| .zG=>96 A (.DM a cW [] ab) R k
      | .brk=>218 .bz k
      | .bj v=>332 v k) (j4 6e2 A ab 14e7) n
    else 218 .bz n)
    (j4 6e2 A ab 14e7) s):96 A (.DM a cW [] ab) R s:=by
 show mf H ?_;refine aL _ A (408 (X0 a cW [] ab)) _ _ s;show zw ?_;dsimp-fs only[X0];show aY (eW h (λb n r=>?_) λm m h'=>h');cases b with
 |false=>
  simp-fs only[al.zH,zI]at r⊢;exact 164 (zJ (bG r))
 |true=>
  simp-fs only[wC]at r⊢;show aY (eW r (λf k p=>?_) λm m h'=>h');cases f with
  |next=>exact bG (238 p)
  |zG=>exact bG (238 p)
  |brk=>exact bG p
  |bj v=>exact bG p
universe e
set_option backward.match.sparseCases false
section
variable{α:Type}(apB:iz)(A:df)
abbrev Rn(α:Type):=D az->ae->6e1×9e5×ae
def rn(t:9e5):Rn α:=b4.pc (wD:=λx=>Rn α)
 (λa x s=>([],.b8 a,s)) (λe x s=>([],.raise e,s)) (λw x s=>([],.X1 w,s)) (λe x s=>([],.finish e,s))
 (λx x ih=>ih ()) (λx x ih=>ih ())
 (λa p k ih apt s=>420 ([],.zK a p k,s) o apt s ((4e4=0e4)::r.1,r.2))
 (λa p f k ih apt s=>420 ([],.eM a p f k,s) () apt {s with M:=s.M.eM a f} ((4e4=0e4)::r.1,r.2))
 (λo k ih apt s=>ih s.M.O.an apt (281 o))
 (λa k ih apt s=>420 ([],.DN a k,s) 0e4 apt s ((4e4=0e4)::r.1,r.2))
 (λx x ih=>ih ()) (λa k x x s=>([],.register a k,s))
 (λk ih apt s=>ih s.a0 apt 42e1) (λk ih=>ih ⟨apB.bb,apB.w.bU⟩)
 (λiL n k x x s=>([],.choose iL n k,s)) (λq l k x x s=>([],.os q l k,s)) (λc h g l k x x s=>([],.aW c h g l k,s))
 (λd2 k ih apt s=>al.pc (ih A.e8 apt s) ([],.e8 true k,s) d2)
 (λc k x x s=>([],.newGen c k,s)) (λg k x x s=>([],.genState g k,s)) (λg r l k x x s=>([],.resume g r l k,s)) (λv g l k x x s=>([],.uF v g l k,s))
 (λk x x s=>([],.ik k,s)) (λc k x x s=>([],.fork c k,s)) (λk ih=>ih 0) (λa t d l k x x s=>([],.await a t d l k,s)) t
def DO{p:Prop}{l:6e1}(h:∀q∈p::l,q):p/\∀q∈l,q:=⟨h _ (.rp _),λq m=>h q (.mj _ m)⟩
def OJ{β α:Type}{apB:iz}{Γ:Ctx}{k:β->9e5}{x app:β}{Q:α->dz->ae->Prop}{E:af->dz->ae->Prop}{p:dz}{s:ae}(e:x=app)(h:b4.wp apB Γ (k app) Q E p s):b4.wp apB Γ (k x) Q E p s:=e▸h
def X2(Q:14e6)(E:0e5)(Γ:Ctx)(t:9e5):Prop:=∀(apt:D az) (s:ae) (p:dz),(∀q∈(rn apB A t apt s).1,q)->(∀p,b4.wp apB Γ (rn apB A t apt s).2.1 (λa h s'=>Q a s') (λe h s'=>E e s') p (rn apB A t apt s).2.2)->b4.wp apB Γ t (λa h s'=>Q a s') (λe h s'=>E e s') p s
def X3{Q:14e6}{E:0e5}{Γ:Ctx}(b:Γ.e8=A.e8)(t:9e5):X2 apB A Q E Γ t:=by
 induction t with
 |pd _ _ ih=>exact ih ()
 | «at» _ _ ih=>exact λapt s p=>ih () apt s _
 |zK a _ k ih=>exact λapt s p=>match apt with
  | []=>λe h=>h p
  |o::apt=>λx h=>have x:=DO (l:=(rn apB A (k o) apt s).1) x;⟨o,x.1,ih o apt s p x.2 h⟩
 |eM a _ f k ih=>exact λapt s p=>match apt with
  | []=>λe h=>h p
  |o::apt=>λx h=>have x:=DO (l:=(rn apB A (k ()) apt {s with M:=s.M.eM a f}).1) x;⟨aq.mT.bl ⟨o,x.1⟩,ih () apt _ p x.2 h⟩
 |alloc o k ih=>exact λapt s p=>ih _ apt _ p
 |DN a k ih=>exact λapt s p=>match apt with
  | []=>λe h=>h p
  |o::apt=>λx h=>have x:=DO (l:=(rn apB A (k 0e4) apt s).1) x;OJ (k:=k) x.1 (ih 0e4 apt s p x.2 h)
 |wz _ _ ih=>exact ih ()
 |fk k ih=>exact λapt s p=>ih _ apt _ p
 |ask k ih=>exact ih _
 |e8 d2 k ih=>
  cases d2 with
  |false=>exact λapt s p x h=>OJ (k:=k) b (ih _ apt s p x h)
  |true=>exact λe e p e h=>h p
 |OK k ih=>exact ih 0
 |_=>exact λe e p e h=>h p
universe e
section
variable{α:Type}{apB:iz}{A:df}{Q:α->ae->Prop}{E:af->ae->Prop}{s s':ae}{t t':b4 α}{ps:D Prop}
def X4(apt:D az)(e:rn apB A t apt s=(ps,t',s'))(a:∀q∈ps,q)(h:aX apB A t' Q E s'):67 t:=
 λΓ p x=>X3 apB A x.1 t apt s p (by rw[e];exact a) λp=>by rw[e];exact h Γ p x
def sU(apt:D az)(e:rn apB A t apt s=(ps,.b8 v,s'))(x:∀q∈ps,q)(h:Q v s'):67 t:=X4 apt e x 22e3
universe e
universe e
section
open PySem PySem.W PyProof.Rows
set_option backward.match.sparseCases true
def jD:dQ->I->aq az
 | [],_=>L
 |p::l,a=>141 p.1 a 37e7 (jD l a)
def wE{i j:I}{o o':az}{l:dQ}(h:jD ((i,o)::l) j=G o'):(j=i/\o'=o)\/(j≠i/\jD l j=G o'):=by
 have h:141 i j 0e4 (jD l j)=G o':=h;cases e:I.bX i j with
 |true=>rw[e]at h;exact .a2 ⟨(I.fZ e).bh,(52e5).bh⟩
 |false=>rw[e]at h;exact .aD ⟨λq=>I.ne_of_beq_eq_false e q.bh,h⟩
def DP{a:I}{o:az}{l:dQ}(h:jD l a=0e4):(a,o)∈l:=by
 induction l with
 |aQ=>cases h
 |aP p l ih=>
  rcases wE h with⟨H,H⟩|⟨_,h⟩
  ·exact .rp _
  ·exact .mj _ (ih h)
structure Sp where
 kt:dQ
 n:I
 tk:I
structure rq(S:Sp)(s:ae):Prop where
 an:s.M.O.an=S.n
 a0:s.a0=S.tk
 jE:∀a o,jD S.kt a=G o->s.M.ao a=G o
structure Kept(S:Sp)(s s':ae):Prop where
 dC:s'.dC=s.dC
 om:s'.om=s.om
 os:s'.os=s.os
 sV:s'.M.sV=s.M.sV
 bR:∀a o,s.M.ao a=G o->jD S.kt a=L->s'.M.ao a=G o
def sW(g6:fQ->b4 ky)(F:zL)(S:Sp):jF->aq (Sp×jF)
 |⟨s,dG,aT,ik⟩=>match s with
  | .b8 (.mg c)=>match ik with
   | .bj k h g l cd p il::aC=>G (S,⟨g6 c,c,aT,.bj k h g l cd p (keptBy dG c l il)::aC⟩)
   |_=>L
  | .b8 (.kx f)=>match ik with
   | .bj k _ _ _ c p _::aC=>G (S,⟨k (.Y f),c,p,aC⟩)
   |_=>L
  | .raise e=>match ik with
   | .bj k _ _ _ c p _::aC=>G (S,⟨k (.dH e),c,p,aC⟩)
   |_=>L
  | .pd _ k=>G (S,⟨k (),dG,aT,ik⟩)
  | .at p k=>G (S,⟨k (),dG,p,ik⟩)
  | .wz _ k=>G (S,⟨k (),dG,aT,ik⟩)
  | .ask k=>G (S,⟨k F,dG,aT,ik⟩)
  | .zK a _ k=>(jD S.kt a).aj λo=>(S,⟨k o,dG,aT,ik⟩)
  | .DN a k=>(jD S.kt a).aj λo=>(S,⟨k 0e4,dG,aT,ik⟩)
  | .eM a _ f k=>(jD S.kt a).cq λo=>cB (f o).DQ L (G (⟨(a,f o)::S.kt,S.n,S.tk⟩,⟨k (),dG,aT,ik⟩))
  | .alloc o k=>cB o.DQ L (G (⟨(S.n,o)::S.kt,S.n+1,S.tk⟩,⟨k S.n,dG,aT,ik⟩))
  | .fk k=>G (⟨S.kt,S.n,S.tk+1⟩,⟨k S.tk,dG,aT,ik⟩)
  | .aW c h g l k=>
   G (S,⟨g6 c,c,aT,.bj k h g l dG aT (match c,dG with
    | .bI _ a,_=>unmarked a.refs
    | .aW f a,.bI .. | .aW f a,.aW .. =>unmarked (if l.hU borrowed then a.refs else f::a.refs)
    |_,_=>[])::ik⟩)
  | .e8 d2 k=>match d2 with
   |false=>G (S,⟨k (topHandled ik),dG,aT,ik⟩)
   |true=>L
  | .ik k=>G (S,⟨k ((dG,aT)::ik.aj Frame.where_),dG,aT,ik⟩)
  | .OK k=>G (S,⟨k 0,dG,aT,ik⟩)
  |_=>L
def OA{α:Type}(o:29e6)(P:20e2):Prop:=match o with
 |G a=>P a
 |L=>ku
structure nr(S S':Sp)(s s':ae):Prop where
 N:rq S' s'
 il:Kept S s s'
 hY:∀a o,jD S'.kt a=G o->jD S.kt a≠L\/s.M.O.an<=a
 grow:s.M.O.an<=s'.M.O.an
def nr.fE{S:Sp}{s:ae}(R:rq S s):nr S S s s:=⟨R,⟨H,H,H,H,λh h e h=>e⟩,λa o e=> .a2 (by rw[e];simp),11e7⟩
def nr.aU{S h b:Sp}{s r p:ae}(A:nr S h s r)(B:nr h b r p):nr S b s p:=by
 show⟨B.N,⟨B.il.dC.aU A.il.dC,B.il.om.aU A.il.om,B.il.os.aU A.il.os,B.il.sV.aU A.il.sV,λa o e x=>?_⟩,λa o e=>?_,I.dV A.grow B.grow⟩
 ·show B.il.bR a o (A.il.bR a o e x) ?_;cases q:jD h.kt a with
  |L=>rfl
  |G o'=>exact(A.hY a o' q).ak (bL x) λz=>31 9e1 z
 ·rcases B.hY a o e with z|z
  ·cases q:jD h.kt a with
   |L=>exact bL q z
   |G o'=>exact A.hY a o' q
  ·exact .aD (I.dV A.grow z)
def SS(g6:fQ->b4 ky)(p:gR)(w:eA)(S:Sp)(s:ae)(t:jF)(r:Sp×jF):Prop:=∃s',on g6 p w s t= .go s' r.2/\nr S r.1 s s'
def SS.fE{g6:fQ->b4 ky}{p:gR}{w:eA}{S:Sp}{s:ae}{t x:jF}(R:rq S s)(h:on g6 p w s t= .go s x):SS g6 p w S s t (S,x):=⟨s,h,.fE R⟩
def OA.aj{α β:Type}{o:29e6}{f:α->β}{P:38e5}(h:∀a,o=11e3->P (f a)):OA (o.aj f) P:=by
 cases o with
 |L=>trivial
 |G a=>exact h a H
def OA.cq{α β:Type}{o:29e6}{f:α->aq β}{P:38e5}(h:∀a,o=11e3->OA (f a) P):OA (o.cq f) P:=by
 cases o with
 |L=>trivial
 |G a=>exact h a H
def OA.cB{β:Type}{b:al}{r:β}{P:38e5}(h:b=false->P r):OA (cB b L (G r)) P:=by
 cases b with
 |true=>trivial
 |false=>exact h H
def OL{g6:fQ->b4 ky}{p:gR}{w:eA}{S:Sp}{t:jF}{s:ae}(R:rq S s):OA (sW g6 ⟨p,w.bU⟩ S t) (SS g6 p w S s t):=by
 obtain(⟨i,dG,aT,ik⟩):=t;cases i with
 |b8 f=>
  cases f with
  |mg c=>
   cases ik with
   |aQ=>trivial
   |aP fr aC=>
    cases fr with
    |gen=>trivial
    |bj k hd g l cd u il=>exact .fE R step_again
  |done f=>
   cases ik with
   |aQ=>trivial
   |aP fr aC=>
    cases fr with
    |gen=>trivial
    |bj k hd g l cd u il=>exact .fE R H
 |raise e=>
  cases ik with
  |aQ=>trivial
  |aP fr aC=>
   cases fr with
   |gen=>trivial
   |bj k hd g l cd u il=>exact .fE R H
 |pd tag k=>exact .fE R H
 | «at» q k=>exact .fE R H
 |wz l k=>exact .fE R H
 |ask k=>exact .fE R H
 |ik k=>exact .fE R H
 |OK k=>exact .fE R H
 |aW c hd g l k=>exact .fE R H
 |e8 d2 k=>
  cases d2 with
  |true=>trivial
  |false=>exact .fE R H
 |zK a q k=>exact OA.aj λo e=> .fE R (by dsimp only[on];rw[R.jE a o e])
 |DN a k=>exact OA.aj λo e=> .fE R (by dsimp only[on];rw[R.jE a o e])
 |fk k=>
  obtain(⟨app,g,d,tk,os⟩):=s;cases R.a0;exact⟨_,H,⟨R.an,H,R.jE⟩,⟨H,H,H,H,λm m e m=>e⟩,(nr.fE R).hY,11e7⟩
 |eM a q f k=>
  show OA.cq λo e=>OA.cB λr=>?_;have n:4e4=0e4:=R.jE a o e;have hs:166 a (s.M.eM a f):=ai.fy.eM ..;have j:(s.M.eM a f).ao a=G (f o):=by first|exact ai.kz f n r|exact ai.kz _ n r
  show⟨{s with M:=s.M.eM a f},by simp only[on,n,aq.isSome_some,wC],⟨hs.1.aU R.an,R.a0,λb o' h=>?_⟩,⟨H,H,H,H,λb o' h v=>(hs.2 b λq=>by rw[q,e]at v;cases v).aU h⟩,λb o' h=>?_,I.hZ hs.1.bh⟩
  ·rcases wE h with⟨H,H⟩|⟨x,h⟩
   ·exact j
   ·exact(hs.2 b x).aU (R.jE b o' h)
  ·rcases wE h with⟨H,H⟩|⟨x,h⟩
   ·exact .a2 λq=>nN (q.bh.aU e)
   ·exact(nr.fE R).hY _ _ h
 |alloc o k=>
  show OA.cB λr=>?_;have hz:s.M.O.an=S.n:=R.an;show⟨(281 o),by simp only[on,hz],⟨by refine(s.M.b5 o).O.an=_;rw[ai.iM,hz],R.a0,λb o' h=>?_⟩,⟨H,H,H,H,λb o' h m=>ai.em _ h⟩,λb o' h=>?_,by refine _<=(s.M.b5 o).O.an;rw[ai.iM];exact 37e9⟩
  ·rcases wE h with⟨H,H⟩|⟨x,h⟩
   ·rw[<-hz];exact ai.fF _ r
   ·exact 86 (R.jE b o' h)
  ·rcases wE h with⟨H,H⟩|⟨x,h⟩
   ·exact .aD (I.hZ hz)
   ·exact(nr.fE R).hY _ _ h
 |_=>trivial
def sX(g6:fQ->b4 ky)(s:jF->al)(F:zL):I->Sp->jF->aq (iK×Sp×fQ×dz)
 |0,_,_=>L
 |n+1,S,t=>match endAt 1 t with
  |G f=>G (f,S,t.dG,t.aT)
  |L=>match s t with
   |false=>L
   |true=>match sW g6 F S t with
    |G r=>sX g6 s F n r.1 r.2
    |L=>L
def X5(g6:fQ->b4 ky)(s:jF->al)(F:zL)(n:I)(S:Sp)(t:jF):sX g6 s F (n+1) S t=(endAt 1 t).ak (cB (s t) ((sW g6 F S t).cq λr=>sX g6 s F n r.1 r.2) L) λf=>G (f,S,t.dG,t.aT):=by
 refine sX g6 s F (n+1) S t=_;kernel_rfl
def OM{tb:fS->aq Builtin}{p:gR}{w:eA}{x:I}{e:12e4}{n:I}:∀{S a:Sp} {t:jF} {s:ae} {f:iK} {c:fQ} {q:dz},
  sX (rr tb) (zM x e) ⟨p,w.bU⟩ n S t=G (f,a,c,q)->rq S s->
  ∃s',DR tb p w x e 1 n s t=G (f,s',c,q)/\nr S a s s':=by
 induction n with
 |i4=>exact λh u=>nN h
 |hH n m=>
  intro S a t s f c q h R;rw[X5]at h;unfold DR;cases k:endAt 1 t with
  |G g=>rw[k]at h;cases h;exact⟨s,H,.fE R⟩
  |L=>
   rw[k]at h;cases b:zM x e t with
   |false=>rw[b]at h;cases h
   |true=>
    rw[b]at h;have z:=OL (g6:=rr tb) (p:=p) (w:=w) (t:=t) R;cases hs:sW (rr tb) ⟨p,w.bU⟩ S t with
    |L=>rw[hs]at h;cases h
    |G r=>
     rw[hs]at h z;(show aM z λi e1 A=>?_;try clear z);show aM (m h A.N) λv e2 B=>?_;exact⟨v,by dsimp only;rw[e1];exact e2,A.aU B⟩
set_option backward.match.sparseCases false
abbrev pw:gR:=PySem.Challenge.pw_nm0174_01
def eg(i:I):ck:=(pw.rt.cW[i]?).ge (.uG nt)
def X6:ck->11e1
 | .ClassDef _ _ _ b _ _ _ _ _ _ _=>b
 |_=>[]
def dj(i j:I):ck:=((X6 (eg i))[j]?).ge (.uG nt)
def X7:ck->am
 | .DS n _ _ _ _ _ _ _ _ _=>n
 |_=>nt
def DT:ck->X8
 | .DS _ a _ _ _ _ _ _ _ _=>a
 |_=>nt
def uH:ck->11e1
 | .DS _ _ b _ _ _ _ _ _ _=>b
 |_=>[]
def DU:ck->cC
 | .DS _ _ _ _ _ _ s _ _ _=>s
 |_=>nt
def zN(s:ck)(q:am)(h apK cd:af):jB:=
 {gf:=X7 s,pb:=q,bU:=DT s,cW:= .mS (uH s),br:=DU s,g8:=ON,rk:=[],zO:=h,DV:= .L,doc:= .L,pyModule:=apK,annotations:=L,dG:=cd,closureTuple:= .L,jC:=mU}
def zP(i k:I):11e1:=(pw.rt.cW.fh i).fG k
def uI:ez:={br:=pw.rt.br,cX:=ON,g8:=ON,b2:=[],dG:= .N 13,eb:=G 14}
def cT:fQ:= .cW (zQ pw) uI
def sY:dz:=⟨0,0,0,0⟩
noncomputable def dn:fQ->b4 PySem.ky:=PySem.W.np.tw11892475500146522536 PySem.W.np.tw14364793385576792824
noncomputable def wF:jF->al:=PySem.W.np.tw6613529449190102663 11 (47 6)
structure fH where
 s:I
 k:I
 apC:I
 n0:I
 sZ:I
 p0:dz
 s3:D I
 n1:I
 iA:I
 p1:dz
def DW(apu:dQ)(s3:D I):dQ:=apu.oo λp=>s3.hU p.1
noncomputable def wG(g:fH)(w:eA)(apu:dQ):aq (iK×Sp×fQ×dz):=
 sX dn wF ⟨pw,w.bU⟩ g.apC ⟨DW apu g.s3,g.n0,g.sZ⟩ (piecesOf (zP g.s g.k) uI cT g.p0 [uJ sY])
def zR(as:D I)(r:aq (iK×Sp×fQ×dz)):aq (iK×I×I×fQ×dz×D (aq az)):=
 r.aj λx=>(x.1,x.2.1.n,x.2.1.tk,x.2.2.1,x.2.2.2,as.aj (jD x.2.1.kt))
def S0:am:= "~<module>"
def S1:am:= "~/claim/cut.py"
def ca(A B:am)(t u:I)(apt a:K)(r:I):az:=(289 #[.ag A t,.ag B (t+1),119 (t+2),3 apt,3 a,1e4,1e4,3 3,.N r,22e6,37e5,.N (r+1),.L,.N (r+2),.N (r+3),.N (r+4),3 u,3 apt,119 (u+1)])
def b3(s:ck)(q:am)(h:af)(A:am)(t r:I):az:=(315 47e2 (.mi (zN s q h (.ag A t) (.N r))))
def de(P:aw)(s:am)(t:I)(v:af):iO:=⟨cj.ry P s,.ag s t,v⟩
def S2:am:= "~type.__subclasses__.Exception.0"
def S3:am:= "~type.__subclasses__.Exception.n"
def S4:am:= "~wasmcore.faults"
def S5:am:= "~__init__"
def S6:am:= "~WasmFault.__init__"
def S7:am:= "~__module__"
def S8:am:= "~__firstlineno__"
def S9:am:= "~__static_attributes__"
def lH:am:= "~__weakref__"
def ji:am:= "~__doc__"
def i5:am:= "~WasmFault"
def qk:am:= "~Trap"
def ql:am:= "~Exhausted"
def nu:am:= "~wasmcore.arith"
def qm:am:= "~Misused"
def zS:am:= "~unsigned"
def zT:am:= "~signed"
def zU:am:= "~widened"
def zV:am:= "~add"
def zW:am:= "~place_in"
def zX:am:= "~narrow_of"
def zY:am:= "~is_unary"
def rz:am:= "~wasmcore.kinds"
def zZ:am:= "~reckon2"
def wH:am:= "~wasmcore.codes"
def OO:am:= "~Sizes.__init__"
def ml:am:= "~__dict__"
def wI:am:= "~Sizes"
def z0:am:= "~is_ref"
def S31:am:= "~bits_of"
def S32:am:= "~default_value"
def eT:am:= "~wasmcore.store"
def S34:am:= "~is_block"
def S35:am:= "~matches"
def S36:am:= "~number_of"
def OP:am:= "~wasmcore.octets"
def S38:am:= "~octets_of"
def S39:am:= "~want_within"
def S40:am:= "~does_fit"
def S41:am:= "~do_fit"
def S42:am:= "~grown"
def OQ:am:= "~Memory.__init__"
def S44:am:= "~size"
def OR:am:= "~Memory.size"
def S46:am:= "~grow"
def OS:am:= "~Memory.grow"
def S48:am:= "~want"
def OT:am:= "~Memory.want"
def OU:am:= "~load"
def OV:am:= "~Memory.load"
def OW:am:= "~store"
def OX:am:= "~Memory.store"
def OY:am:= "~write"
def OZ:am:= "~Memory.write"
def S56:am:= "~fill"
def O0:am:= "~Memory.fill"
def S58:am:= "~copy"
def O1:am:= "~Memory.copy"
def S60:am:= "~init"
def O2:am:= "~Memory.init"
def X9:am:= "~kind"
def Ya:am:= "~read"
def s4:am:= "~plain"
def wJ:am:= "~Memory"
def O3:am:= "~Table.__init__"
def O4:am:= "~Table.size"
def O5:am:= "~Table.want"
def DX:am:= "~get"
def O6:am:= "~Table.get"
def DY:am:= "~put"
def O7:am:= "~Table.put"
def O8:am:= "~Table.grow"
def O9:am:= "~Table.fill"
def Pa:am:= "~Table.copy"
def Pb:am:= "~Table.init"
def Yb:am:= "~table_kind"
def wK:am:= "~Table"
def Pc:am:= "~Cell.__init__"
def Yc:am:= "~global_kind"
def wL:am:= "~Cell"
def Pd:am:= "~WasmFunc.__init__"
def S83:am:= "~is_host"
def Pe:am:= "~WasmFunc.is_host"
def wM:am:= "~WasmFunc"
def Pf:am:= "~HostFunc.__init__"
def Pg:am:= "~HostFunc.is_host"
def Ph:am:= "~run"
def S89:am:= "~HostFunc.run"
def wN:am:= "~HostFunc"
def S91:am:= "~Instance.__init__"
def S92:am:= "~drop_elem"
def S93:am:= "~Instance.drop_elem"
def S94:am:= "~drop_data"
def S95:am:= "~Instance.drop_data"
def Yd:am:= "~addresses"
def Ye:am:= "~address"
def Yf:am:= "~index_of"
def Yg:am:= "~exported"
def wO:am:= "~Instance"
def gg:am:= "~wasmcore.core"
def aaa:am:= "~CoreInstance.__init__"
def wP:am:= "~CoreInstance"
def aab:am:= "~CoreStore.__init__"
def wQ:am:= "~CoreStore"
def aac:am:= "~Label.__init__"
def wR:am:= "~Label"
def aad:am:= "~Frame.__init__"
def z1:am:= "~is_done"
def aae:am:= "~Frame.is_done"
def wS:am:= "~Frame"
def aaf:am:= "~CoreRun.__init__"
def aag:am:= "~CoreRun.is_done"
def aah:am:= "~depth"
def aai:am:= "~CoreRun.depth"
def aaj:am:= "~forward"
def aak:am:= "~CoreRun.forward"
def aal:am:= "~step"
def aam:am:= "~CoreRun.step"
def aan:am:= "~do"
def aao:am:= "~CoreRun.do"
def aap:am:= "~number"
def aaq:am:= "~CoreRun.number"
def aar:am:= "~local"
def aas:am:= "~CoreRun.local"
def aat:am:= "~control"
def aau:am:= "~CoreRun.control"
def aav:am:= "~lower"
def aaw:am:= "~CoreRun.lower"
def aax:am:= "~go"
def aay:am:= "~CoreRun.go"
def aaz:am:= "~open_frame"
def aaA:am:= "~CoreRun.open_frame"
def DZ:am:= "~more"
def Yh:am:= "~begin"
def Yi:am:= "~choose"
def Yj:am:= "~branch"
def Yk:am:= "~branch_by_table"
def Yl:am:= "~give_back"
def D0:am:= "~enter"
def qn:am:= "~CoreRun"
def aaB:am:= "~CoreMachine.__init__"
def aaC:am:= "~count"
def aaD:am:= "~CoreMachine.count"
def aaE:am:= "~matched"
def aaF:am:= "~CoreMachine.matched"
def Ym:am:= "~left"
def Yn:am:= "~refuel"
def Yo:am:= "~begun"
def Yp:am:= "~call"
def Yq:am:= "~tried"
def Yr:am:= "~counted"
def wT:am:= "~CoreMachine"
def kZ:am:= "~wasmcore.machine"
def aaG:am:= "~Run.more"
def aaH:am:= "~address_in"
def aaI:am:= "~Run.address_in"
def aaJ:am:= "~Run.enter"
def aaK:am:= "~hosted"
def aaL:am:= "~Run.hosted"
def aaM:am:= "~cell"
def aaN:am:= "~Run.cell"
def aaO:am:= "~element"
def aaP:am:= "~Run.element"
def aaQ:am:= "~table_of"
def aaR:am:= "~Run.table_of"
def aaS:am:= "~memory_of"
def aaT:am:= "~Run.memory_of"
def aaU:am:= "~memory"
def aaV:am:= "~Run.memory"
def aaW:am:= "~octets"
def aaX:am:= "~Run.octets"
def aaY:am:= "~reference"
def aaZ:am:= "~Run.reference"
def aa0:am:= "~elements"
def aa1:am:= "~Run.elements"
def aa2:am:= "~many_elements"
def aa3:am:= "~Run.many_elements"
def wU:am:= "~Run"
def gh:am:= "~law_nm0174_01"
def aa4:am:= "~Func.__init__"
def aa5:am:= "~wasmcore.modules"
def wV:am:= "~Func"
def z2:am:= "~_law_types"
def z3:am:= "~_law_widths"
def z4:am:= "~_law_number"
def z5:am:= "~_law_reference"
def z6:am:= "~_law_three"
def z7:am:= "~_law_octets"
def z8:am:= "~_law_elements"
def z9:am:= "~_law_deed"
def Aa:am:= "~_law_body"
def Ab:am:= "~_law_world"
def wW:am:= "~_law_host"
def Ac:am:= "~_law_store"
def Ad:am:= "~_law_accessed"
def Ae:am:= "~_law_grown"
def Af:am:= "~_law_moved"
def Ag:am:= "~_law_many"
def Ah:am:= "~_law_called"
def Ai:am:= "~_law_through"
def Aj:am:= "~_law_does"
def Ak:am:= "~_law_due"
def Am:am:= "~_law_told"
def wX:am:= "~law"
def Ys:am:= "~__package__"
def Yt:am:= "~__loader__"
def Yu:am:= "~__spec__"
def Yv:am:= "~__annotations__"
def Yw:am:= "~__builtins__"
def Yx:am:= "~__file__"
def Yy:am:= "~__cached__"
def Yz:am:= "~_wall"
def YA:am:= "~DIVIDE_BY_ZERO"
def YB:am:= "~integer divide by zero"
def YC:am:= "~OVERFLOW"
def YD:am:= "~integer overflow"
def YE:am:= "~I32_EQZ"
def YF:am:= "~I32_EQ"
def YG:am:= "~I64_EQZ"
def YH:am:= "~I64_EQ"
def YI:am:= "~I32_CLZ"
def YJ:am:= "~I32_ADD"
def YK:am:= "~I64_CLZ"
def YL:am:= "~I64_ADD"
def YM:am:= "~WRAP"
def YN:am:= "~EXTEND_S"
def YO:am:= "~EXTEND_U"
def YP:am:= "~I32_EXTEND8"
def YQ:am:= "~I64_EXTEND8"
def YR:am:= "~least_signed"
def YS:am:= "~eqz"
def YT:am:= "~clz"
def YU:am:= "~ctz"
def YV:am:= "~popcnt"
def YW:am:= "~sub"
def YX:am:= "~mul"
def YY:am:= "~toward_nought"
def YZ:am:= "~div_s"
def Y0:am:= "~div_u"
def Y1:am:= "~rem_s"
def Y2:am:= "~rem_u"
def Y3:am:= "~bits_and"
def Y4:am:= "~bits_or"
def Y5:am:= "~bits_xor"
def Y7:am:= "~shl"
def Y8:am:= "~shr_s"
def Y9:am:= "~shr_u"
def Za:am:= "~rotl"
def Zb:am:= "~rotr"
def Zc:am:= "~eq"
def Zd:am:= "~ne"
def Ze:am:= "~lt_s"
def Zf:am:= "~lt_u"
def Zg:am:= "~gt_s"
def Zh:am:= "~gt_u"
def Zi:am:= "~le_s"
def Zj:am:= "~le_u"
def Zk:am:= "~ge_s"
def Zl:am:= "~ge_u"
def Zm:am:= "~COUNTS"
def Zn:am:= "~COMPARES"
def Zo:am:= "~REST"
def Zp:am:= "~reckon1"
def Zq:am:= "~I32"
def Zr:am:= "~I64"
def Zs:am:= "~FUNCREF"
def Zt:am:= "~EXTERNREF"
def Zu:am:= "~EMPTY"
def Zv:am:= "~KIND_NAMES"
def Zw:am:= "~HEAP_NAMES"
def Zx:am:= "~block_kind"
def Zy:am:= "~BLOCK"
def Zz:am:= "~LOOP"
def ZA:am:= "~IF"
def S276:am:= "~ELSE"
def S277:am:= "~END"
def S278:am:= "~LOADS"
def S279:am:= "~STORES"
def S280:am:= "~REFUSED"
def S281:am:= "~OUTSIDE_MEMORY"
def S282:am:= "~out of bounds memory access"
def S283:am:= "~OUTSIDE_TABLE"
def S284:am:= "~out of bounds table access"
def S285:am:= "~of_sort"
def S286:am:= "~FUEL"
def S287:am:= "~fuel"
def S288:am:= "~CALL_STACK"
def S289:am:= "~call stack"
def S290:am:= "~UNREACHABLE"
def S291:am:= "~unreachable"
def S292:am:= "~UNDEFINED"
def S293:am:= "~undefined element"
def S294:am:= "~UNINITIALIZED"
def S295:am:= "~uninitialized element"
def S296:am:= "~OTHER_KIND"
def S297:am:= "~indirect call type mismatch"
def S298:am:= "~__name__"
def mainT(P:aw):26e2:=[de P ji 166 .L,
 de P Ys 167 .L,
 de P Yt 168 (.bI "__main__.__loader__#opaque"),
 de P Yu 169 .L,
 1 Yv 170 6,
 1 Yw 171 4,
 236 Yx 173 S1 172,
 de P Yy 174 .L,
 1 Yz 193 21,
 1 i5 224 38,
 1 qk 240 51,
 1 ql 256 63,
 1 qm 272 75,
 236 YA 276 YB 275,
 236 YC 278 YD 277,
 81 YE 280 69 279,
 81 YF 282 70 281,
 81 YG 284 80 283,
 81 YH 286 81 285,
 81 YI 288 103 287,
 81 YJ 290 106 289,
 81 YK 292 121 291,
 81 YL 294 124 293,
 81 YM 296 167 295,
 81 YN 298 172 297,
 81 YO 300 173 299,
 81 YP 302 192 301,
 81 YQ 304 194 303,
 1 zS 312 84,
 1 zT 320 91,
 1 YR 327 98,
 1 zU 336 105,
 1 YS 344 112,
 1 YT 354 119,
 1 YU 364 126,
 1 YV 373 133,
 1 zV 382 140,
 1 YW 391 147,
 1 YX 400 154,
 1 YY 409 161,
 1 YZ 420 168,
 1 Y0 429 175,
 1 Y1 440 182,
 1 Y2 449 189,
 1 Y3 458 196,
 1 Y4 467 203,
 1 Y5 476 210,
 1 Y7 485 217,
 1 Y8 494 224,
 1 Y9 503 231,
 1 Za 513 238,
 1 Zb 522 245,
 1 Zc 531 252,
 1 Zd 540 259,
 1 Ze 549 266,
 1 Zf 558 273,
 1 Zg 567 280,
 1 Zh 576 287,
 1 Zi 585 294,
 1 Zj 594 301,
 1 Zk 603 308,
 1 Zl 612 315,
 1 Zm 613 316,
 1 Zn 614 317,
 1 Zo 615 318,
 1 zW 625 325,
 1 zX 632 332,
 1 zY 639 339,
 1 Zp 649 346,
 1 zZ 659 353,
 81 Zq 664 (-1) 663,
 81 Zr 667 (-2) 666,
 81 Zs 670 (-16) 669,
 81 Zt 673 (-17) 672,
 81 Zu 676 (-64) 675,
 1 Zv 685 354,
 1 Zw 690 355,
 1 wI 731 373,
 1 z0 738 384,
 1 S31 745 391,
 1 S32 752 398,
 1 Zx 760 405,
 81 Zy 764 2 763,
 81 Zz 766 3 765,
 81 ZA 768 4 767,
 81 S276 770 5 769,
 81 S277 772 11 771,
 1 S278 821 406,
 1 S279 843 419,
 1 S34 850 433,
 1 S35 864 440,
 1 S36 876 447,
 1 S38 882 452,
 81 S280 886 4294967295 885,
 236 S281 888 S282 887,
 236 S283 890 S284 889,
 1 S39 900 459,
 1 S40 908 466,
 1 S41 914 471,
 1 S42 925 478,
 1 S285 933 485,
 1 wJ 1075 586,
 1 wK 1200 677,
 1 wL 1262 726,
 1 wM 1302 754,
 1 wN 1349 789,
 1 wO 1437 852,
 236 S286 1441 S287 1440,
 236 S288 1443 S289 1442,
 236 S290 1445 S291 1444,
 1 wP 1476 873,
 1 wQ 1504 894,
 1 wR 1546 922,
 1 wS 1602 957,
 1 qn 1818 1110,
 1 wT 1923 1188,
 236 S292 1927 S293 1926,
 236 S294 1929 S295 1928,
 236 S296 1931 S297 1930,
 1 wU 2092 1293,
 1 wV 2134 1319,
 1 z2 2142 1330,
 1 z3 2149 1337,
 1 z4 2156 1344,
 1 z5 2164 1351,
 1 z6 2172 1358,
 1 z7 2178 1363,
 1 z8 2192 1370,
 1 z9 2205 1377,
 1 Aa 2214 1384,
 1 Ab 2220 1389,
 1 wW 2230 1396,
 1 Ac 2236 1401,
 1 Ad 2242 1406,
 1 Ae 2254 1413,
 1 Af 2268 1420,
 1 Ag 2287 1427,
 1 Ah 2300 1434,
 1 Ai 2312 1441,
 1 Aj 2327 1448,
 1 Ak 2339 1455,
 1 Am 2347 1462,
 1 wX 2353 1467]
def fM(P:aw)(nm:af)(k n:I):az:=(92 (de P S298 165 nm::(mainT P).fG k).gF n)
def tabL:2e4:=[3 1,1e4,.N 20,3 5,1e4,.N 27,3 10,1e4,.N 47,3 12,1e4,.N 59,3 14,1e4,.N 71,3 32,1e4,.N 83,3 34,1e4,.N 90,3 36,1e4,.N 97,3 38,1e4,.N 104,3 40,1e4,.N 111,3 42,1e4,.N 118,3 53,1e4,.N 125,3 64,1e4,.N 132,3 70,1e4,.N 139,3 72,1e4,.N 146,3 74,1e4,.N 153,3 76,1e4,.N 160,3 79,1e4,.N 167,3 86,1e4,.N 174,3 90,1e4,.N 181,3 95,1e4,.N 188,3 99,1e4,.N 195,3 101,1e4,.N 202,3 103,1e4,.N 209,3 105,1e4,.N 216,3 107,1e4,.N 223,3 109,1e4,.N 230,3 111,1e4,.N 237,3 114,1e4,.N 244,3 116,1e4,.N 251,3 118,1e4,.N 258,3 120,1e4,.N 265,3 122,1e4,.N 272,3 124,1e4,.N 279,3 126,1e4,.N 286,3 128,1e4,.N 293,3 130,1e4,.N 300,3 132,1e4,.N 307,3 134,1e4,.N 314,3 139,1e4,.N 324,3 145,1e4,.N 331,3 151,1e4,.N 338,3 155,1e4,.N 345,3 169,1e4,.N 352,3 185,1e4,.N 361,3 193,1e4,.N 383,3 195,1e4,.N 390,3 197,1e4,.N 397,3 199,1e4,.N 404,3 213,1e4,.N 432,3 215,1e4,.N 439,3 230,1e4,.N 446,3 235,1e4,.N 451,3 241,1e4,.N 458,3 244,1e4,.N 465,3 250,1e4,.N 470,3 254,1e4,.N 477,3 259,1e4,.N 484,3 263,1e4,.N 491,3 322,1e4,.N 596,3 373,1e4,.N 687,3 395,1e4,.N 736,3 404,1e4,.N 764,3 418,1e4,.N 799,3 452,1e4,.N 862,3 457,1e4,.N 883,3 461,1e4,.N 904,3 471,1e4,.N 932,3 490,1e4,.N 967,3 648,1e4,.N 1120,3 696,1e4,.N 1198,3 830,1e4,.N 1301,3 840,1e4,.N 1329,3 842,1e4,.N 1336,3 848,1e4,.N 1343,3 850,1e4,.N 1350,3 854,1e4,.N 1357,3 856,1e4,.N 1362,3 874,1e4,.N 1369,3 894,1e4,.N 1376,3 914,1e4,.N 1383,3 921,1e4,.N 1388,3 928,1e4,.N 1395,3 930,1e4,.N 1400,3 947,1e4,.N 1405,3 964,1e4,.N 1412,3 970,1e4,.N 1419,3 976,1e4,.N 1426,3 995,1e4,.N 1433,3 1006,1e4,.N 1440,3 1015,1e4,.N 1447,3 1052,1e4,.N 1454,3 1064,1e4,.N 1461,3 1072,1e4,.N 1466]
def gT(k:I):az:=⟨.L,L,.cn (tabL.fG k).gF,#[]⟩
def gU(s:aw):az:=(289 #[.ag S0 182,.ag S0 183,119 184,3 1,1e4,1e4,1e4,1e4,.N 11,33e8,37e5,.N 12,.L,.L,.L,.L,3 185,3 1,119 186])
def o2(P:aw):az:=⟨.L,L,.bv #[de P S2 221 (3 38),de P S3 222 (3 1)] 2,#[]⟩
def D1(s:aw):az:=(ca S5 S6 208 213 7 2 29)
def D2(s:aw):az:=(155 2 0 S6 S4 194 34)
def uK(P:aw):az:=(92 #[135 203 S4 194,134 207 5 206,1 S5 215 35,1 S9 217 36,1 lH 219 39,de P ji 220 .L] 3)
def o38(s:aw):az:=(98 L i5 [22e7] [32e9,22e7,22e5,6e9] 37 i5 [] #[47 22,L,14 i5 196,14 i5 204,G 41e4,12e0])
def o38v1(s:aw):az:=(98 L i5 [22e7] [32e9,22e7,22e5,6e9] 37 i5 [.N 51] #[47 22,L,14 i5 196,14 i5 204,G 41e4,12e0])
def D3(P:aw):az:=(92 #[135 232 S4 194,134 236 10 235,1 S9 237 49,de P ji 238 .L] 2)
def D4(s:aw):az:=(98 L qk [32e9] [.N 51,32e9,22e7,22e5,6e9] 50 qk [] #[47 42,L,14 qk 225,14 qk 233,G 41e4,12e0])
def o38v2(s:aw):az:=(98 L i5 [22e7] [32e9,22e7,22e5,6e9] 37 i5 [.N 51,.N 63] #[47 22,L,14 i5 196,14 i5 204,G 41e4,12e0])
def D5(P:aw):az:=(92 #[135 248 S4 194,134 252 12 251,1 S9 253 61,de P ji 254 .L] 2)
def D6(s:aw):az:=(98 L ql [32e9] [.N 63,32e9,22e7,22e5,6e9] 62 ql [] #[47 54,L,14 ql 241,14 ql 249,G 41e4,12e0])
def D7(s:aw):az:=(98 L i5 [22e7] [32e9,22e7,22e5,6e9] 37 i5 [.N 51,.N 63,.N 75] #[47 22,L,14 i5 196,14 i5 204,G 41e4,12e0])
def D8(P:aw):az:=(92 #[135 264 S4 194,134 268 14 267,1 S9 269 73,de P ji 270 .L] 2)
def D9(s:aw):az:=(98 L qm [32e9] [.N 75,32e9,22e7,22e5,6e9] 74 qm [] #[47 66,L,14 qm 257,14 qm 265,G 41e4,12e0])
def Ea(s:aw):az:=(ca zS zS 305 310 32 2 78)
def Eb(s:aw):az:=(118 22 zS nu 273 83)
def Ec(s:aw):az:=(ca zT zT 313 318 34 2 85)
def Ed(s:aw):az:=(118 23 zT nu 273 90)
def Ee(s:aw):az:=(ca zU zU 328 334 38 3 99)
def Ef(s:aw):az:=(118 25 zU nu 273 104)
def Eg(s:aw):az:=(ca zV zV 374 380 70 3 134)
def Eh(s:aw):az:=(118 30 zV nu 273 139)
def Ei(s:aw):az:=(88 #[.N 119,.N 126,.N 133])
def Ej(s:aw):az:=(88 #[.N 140,.N 147,.N 154,.N 168,.N 175,.N 182,.N 189,.N 196,.N 203,.N 210,.N 217,.N 224,.N 231,.N 238,.N 245])
def Ek(s:aw):az:=(ca zW zW 616 623 139 4 319)
def El(s:aw):az:=(118 59 zW nu 273 324)
def Em(s:aw):az:=(ca zX zX 626 630 145 1 326)
def En(s:aw):az:=(118 60 zX nu 273 331)
def Eo(s:aw):az:=(ca zY zY 633 637 151 1 333)
def Ep(s:aw):az:=(118 61 zY nu 273 338)
def Er(s:aw):az:=(ca zZ zZ 650 657 169 3 347)
def Et(s:aw):az:=(118 63 zZ nu 273 352)
def Eu(s:aw):az:=(88 #[.y 65536 703,.y 65536 704,.y 4294967295 705,.y 200 706,.L])
def Ev(s:aw):az:=(ca S5 OO 707 716 187 6 364)
def Ew(s:aw):az:=(b3 (dj 72 0) OO (.N 363) rz 660 369)
def Ex(P:aw):az:=(92 #[135 698 rz 660,134 702 185 701,1 S5 718 370,1 S9 724 371,1 ml 726 374,1 lH 728 375,de P ji 729 .L] 4)
def Ey(s:aw):az:=(98 L wI [6e9] [.N 373,6e9] 372 wI [] #[L,L,14 wI 691,14 wI 699,23e0,12e0])
def Ez(s:aw):az:=(ca z0 z0 732 736 193 1 378)
def EA(s:aw):az:=(118 73 z0 rz 660 383)
def EB(s:aw):az:=(ca S31 S31 739 743 195 1 385)
def EC(s:aw):az:=(118 74 S31 rz 660 390)
def ED(s:aw):az:=(ca S32 S32 746 750 197 1 392)
def EF(s:aw):az:=(118 75 S32 rz 660 397)
def EG(s:aw):az:=(92 #[⟨40,.y 40 773,.N 407⟩,⟨41,.y 41 776,.N 408⟩,⟨44,.y 44 779,.N 409⟩,⟨45,.y 45 782,.N 410⟩,⟨46,.y 46 785,.N 411⟩,⟨47,.y 47 788,.N 412⟩,⟨48,.y 48 791,.N 413⟩,⟨49,.y 49 794,.N 414⟩,⟨50,.y 50 797,.N 415⟩,⟨51,.y 51 800,.N 416⟩,⟨52,.y 52 803,.N 417⟩,⟨53,.y 53 806,.N 418⟩] 12)
def EH(s:aw):az:=(88 #[.y (-1) 663,.y 4 774,.y 0 775])
def EI(s:aw):az:=(88 #[.y (-2) 666,.y 8 777,.y 0 778])
def EJ(s:aw):az:=(88 #[.y (-1) 663,.y 1 780,.y 1 781])
def EK(s:aw):az:=(88 #[.y (-1) 663,.y 1 783,.y 0 784])
def EL(s:aw):az:=(88 #[.y (-1) 663,.y 2 786,.y 1 787])
def EM(s:aw):az:=(88 #[.y (-1) 663,.y 2 789,.y 0 790])
def EN(s:aw):az:=(88 #[.y (-2) 666,.y 1 792,.y 1 793])
def EO(s:aw):az:=(88 #[.y (-2) 666,.y 1 795,.y 0 796])
def EP(s:aw):az:=(88 #[.y (-2) 666,.y 2 798,.y 1 799])
def EQ(s:aw):az:=(88 #[.y (-2) 666,.y 2 801,.y 0 802])
def ER(s:aw):az:=(88 #[.y (-2) 666,.y 4 804,.y 1 805])
def ES(s:aw):az:=(88 #[.y (-2) 666,.y 4 807,.y 0 808])
def ET(s:aw):az:=(92 #[⟨54,.y 54 822,.N 420⟩,⟨55,.y 55 824,.N 421⟩,⟨58,.y 58 826,.N 422⟩,⟨59,.y 59 828,.N 423⟩,⟨60,.y 60 830,.N 424⟩,⟨61,.y 61 832,.N 425⟩,⟨62,.y 62 834,.N 426⟩] 7)
def EU(s:aw):az:=(88 #[.y (-1) 663,.y 4 823])
def EV(s:aw):az:=(88 #[.y (-2) 666,.y 8 825])
def EW(s:aw):az:=(88 #[.y (-1) 663,.y 1 827])
def EX(s:aw):az:=(88 #[.y (-1) 663,.y 2 829])
def EY(s:aw):az:=(88 #[.y (-2) 666,.y 1 831])
def EZ(s:aw):az:=(88 #[.y (-2) 666,.y 2 833])
def E0(s:aw):az:=(88 #[.y (-2) 666,.y 4 835])
def E1(s:aw):az:=(ca S34 S34 844 848 213 1 427)
def E3(s:aw):az:=(118 85 S34 wH 761 432)
def E4(s:aw):az:=(ca S35 S35 851 862 215 1 434)
def E5(s:aw):az:=(118 86 S35 wH 761 439)
def E6(s:aw):az:=(ca S36 S36 867 874 230 1 441)
def E7(s:aw):az:=(118 88 S36 OP 865 446)
def E8(s:aw):az:=(289 #[.ag S38 877,.ag S38 878,119 879,3 235,3 2,1e4,1e4,3 3,.N 448,22e6,37e5,.N 449,.L,.L,.L,.N 450,3 880,3 235,119 881])
def E9(s:aw):az:=(118 89 S38 OP 865 451)
def Fa(s:aw):az:=(ca S39 S39 891 898 241 4 453)
def Fb(s:aw):az:=(118 94 S39 eT 883 458)
def Fc(s:aw):az:=(ca S40 S40 901 906 244 2 460)
def Fd(s:aw):az:=(118 95 S40 eT 883 465)
def Fe(s:aw):az:=(289 #[.ag S41 909,.ag S41 910,119 911,3 250,3 2,1e4,1e4,3 3,.N 467,22e6,37e5,.N 468,.L,.L,.L,.N 469,3 912,3 250,119 913])
def Ff(s:aw):az:=(118 96 S41 eT 883 470)
def Fg(s:aw):az:=(ca S42 S42 915 923 254 4 472)
def Fh(s:aw):az:=(118 97 S42 eT 883 477)
def Fi(s:aw):az:=(ca S5 OQ 946 953 265 4 493)
def Fj(s:aw):az:=(66 99 0 OQ 498)
def Fk(s:aw):az:=(ca S44 OR 956 960 273 1 500)
def Fl(s:aw):az:=(66 99 1 OR 505)
def Fm(s:aw):az:=(ca S46 OS 970 976 279 2 514)
def Fo(s:aw):az:=(66 99 3 OS 519)
def Fp(s:aw):az:=(ca S48 OT 979 985 286 3 521)
def Fq(s:aw):az:=(66 99 4 OT 526)
def Fr(s:aw):az:=(ca OU OV 988 994 289 3 528)
def Fs(s:aw):az:=(66 99 5 OV 533)
def Ft(s:aw):az:=(ca OW OX 997 1004 293 4 535)
def Fu(s:aw):az:=(66 99 6 OX 540)
def Fv(s:aw):az:=(ca OY OZ 1016 1022 301 3 549)
def Fw(s:aw):az:=(66 99 8 OZ 554)
def Fy(s:aw):az:=(ca S56 O0 1025 1032 305 4 556)
def Fz(s:aw):az:=(66 99 9 O0 561)
def FE(s:aw):az:=(ca S58 O1 1035 1042 309 4 563)
def FF(s:aw):az:=(66 99 10 O1 568)
def FG(s:aw):az:=(ca S60 O2 1045 1054 314 5 570)
def FI(s:aw):az:=(66 99 11 O2 575)
def FJ(P:aw):az:=(92 #[135 941 eT 883,134 945 263 944,1 S5 955 499,1 S44 962 506,1 X9 969 513,1 S46 978 520,1 S48 987 527,1 OU 996 534,1 OW 1006 541,1 Ya 1015 548,1 OY 1024 555,1 S56 1034 562,1 S58 1044 569,1 S60 1056 576,1 s4 1063 583,1 S9 1068 584,1 ml 1070 587,1 lH 1072 588,de P ji 1073 .L] 4)
def FK(s:aw):az:=(98 L wJ [6e9] [.N 586,6e9] 585 wJ [] #[L,L,14 wJ 934,14 wJ 942,23e0,12e0])
def FL(s:aw):az:=(ca S5 O3 1088 1096 324 5 598)
def FM(s:aw):az:=(66 100 0 O3 603)
def FN(s:aw):az:=(ca S44 O4 1099 1103 332 1 605)
def FO(s:aw):az:=(66 100 1 O4 610)
def FP(s:aw):az:=(ca S48 O5 1113 1119 338 3 619)
def FQ(s:aw):az:=(66 100 3 O5 624)
def FR(s:aw):az:=(ca DX O6 1122 1127 341 2 626)
def FS(s:aw):az:=(66 100 4 O6 631)
def FT(s:aw):az:=(ca DY O7 1130 1136 345 3 633)
def FU(s:aw):az:=(66 100 5 O7 638)
def FV(s:aw):az:=(ca S46 O8 1139 1146 349 3 640)
def FW(s:aw):az:=(66 100 6 O8 645)
def FX(s:aw):az:=(ca S56 O9 1149 1156 356 4 647)
def FY(s:aw):az:=(66 100 7 O9 652)
def FZ(s:aw):az:=(ca S58 Pa 1159 1167 360 5 654)
def Ga(s:aw):az:=(66 100 8 Pa 659)
def Gb(s:aw):az:=(ca S60 Pb 1170 1179 365 5 661)
def Gc(s:aw):az:=(66 100 9 Pb 666)
def Gd(P:aw):az:=(92 #[135 1083 eT 883,134 1087 322 1086,1 S5 1098 604,1 S44 1105 611,1 Yb 1112 618,1 S48 1121 625,1 DX 1129 632,1 DY 1138 639,1 S46 1148 646,1 S56 1158 653,1 S58 1169 660,1 S60 1181 667,1 s4 1188 674,1 S9 1193 675,1 ml 1195 678,1 lH 1197 679,de P ji 1198 .L] 4)
def Ge(s:aw):az:=(98 L wK [6e9] [.N 677,6e9] 676 wK [] #[L,L,14 wK 1076,14 wK 1084,23e0,12e0])
def Gf(s:aw):az:=(ca S5 Pc 1213 1220 375 4 689)
def Gg(s:aw):az:=(66 101 0 Pc 694)
def Gh(P:aw):az:=(92 #[135 1208 eT 883,134 1212 373 1211,1 S5 1222 695,1 Yc 1229 702,1 DX 1236 709,1 DY 1244 716,1 s4 1251 723,1 S9 1255 724,1 ml 1257 727,1 lH 1259 728,de P ji 1260 .L] 4)
def Gi(s:aw):az:=(98 L wL [6e9] [.N 726,6e9] 725 wL [] #[L,L,14 wL 1201,14 wL 1209,23e0,12e0])
def Gj(s:aw):az:=(ca S5 Pd 1275 1282 397 4 738)
def Gk(s:aw):az:=(66 102 0 Pd 743)
def Gl(s:aw):az:=(ca S83 Pe 1285 1289 402 1 745)
def Gm(s:aw):az:=(66 102 1 Pe 750)
def Gn(P:aw):az:=(92 #[135 1270 eT 883,134 1274 395 1273,1 S5 1284 744,1 S83 1291 751,1 S9 1295 752,1 ml 1297 755,1 lH 1299 756,de P ji 1300 .L] 4)
def Go(s:aw):az:=(98 L wM [6e9] [.N 754,6e9] 753 wM [] #[L,L,14 wM 1263,14 wM 1271,23e0,12e0])
def Gp(s:aw):az:=(ca S5 Pf 1315 1321 406 3 766)
def Gq(s:aw):az:=(66 103 0 Pf 771)
def Gr(s:aw):az:=(ca S83 Pg 1324 1328 410 1 773)
def Gs(s:aw):az:=(66 103 1 Pg 778)
def Gu(s:aw):az:=(ca Ph S89 1331 1337 413 2 780)
def Gv(s:aw):az:=(66 103 2 S89 785)
def Gw(P:aw):az:=(92 #[135 1310 eT 883,134 1314 404 1313,1 S5 1323 772,1 S83 1330 779,1 Ph 1339 786,1 S9 1342 787,1 ml 1344 790,1 lH 1346 791,de P ji 1347 .L] 4)
def Gx(s:aw):az:=(98 L wN [6e9] [.N 789,6e9] 788 wN [] #[L,L,14 wN 1303,14 wN 1311,23e0,12e0])
def Gy(s:aw):az:=(ca S5 S91 1362 1367 420 2 801)
def Gz(s:aw):az:=(66 104 0 S91 806)
def GA(s:aw):az:=(ca S92 S93 1405 1410 443 2 836)
def GB(s:aw):az:=(66 104 5 S93 841)
def GC(s:aw):az:=(ca S94 S95 1413 1418 446 2 843)
def GD(s:aw):az:=(66 104 6 S95 848)
def GE(P:aw):az:=(92 #[135 1357 eT 883,134 1361 418 1360,1 S5 1369 807,1 Yd 1377 814,1 Ye 1386 821,1 Yf 1395 828,1 Yg 1404 835,1 S92 1412 842,1 S94 1420 849,1 S9 1430 850,1 ml 1432 853,1 lH 1434 854,de P ji 1435 .L] 4)
def GF(s:aw):az:=(98 L wO [6e9] [.N 852,6e9] 851 wO [] #[L,L,14 wO 1350,14 wO 1358,23e0,12e0])
def GG(s:aw):az:=(ca S5 aaa 1458 1464 454 3 864)
def GH(s:aw):az:=(143 109 0 aaa 869)
def GI(P:aw):az:=(92 #[135 1453 gg 1438,134 1457 452 1456,1 S5 1466 870,1 S9 1469 871,1 ml 1471 874,1 lH 1473 875,de P ji 1474 .L] 4)
def GJ(s:aw):az:=(98 L wP [6e9] [.N 873,6e9] 872 wP [] #[L,L,14 wP 1446,14 wP 1454,23e0,12e0])
def GK(s:aw):az:=(ca S5 aab 1489 1493 459 1 885)
def GL(s:aw):az:=(143 110 0 aab 890)
def GM(P:aw):az:=(92 #[135 1484 gg 1438,134 1488 457 1487,1 S5 1495 891,1 S9 1497 892,1 ml 1499 895,1 lH 1501 896,de P ji 1502 .L] 4)
def GN(s:aw):az:=(98 L wQ [6e9] [.N 894,6e9] 893 wQ [] #[L,L,14 wQ 1477,14 wQ 1485,23e0,12e0])
def GO(s:aw):az:=(ca S5 aac 1517 1525 463 5 906)
def GP(s:aw):az:=(143 111 0 aac 911)
def GQ(P:aw):az:=(92 #[135 1512 gg 1438,134 1516 461 1515,1 S5 1527 912,1 s4 1534 919,1 S9 1539 920,1 ml 1541 923,1 lH 1543 924,de P ji 1544 .L] 4)
def GR(s:aw):az:=(98 L wR [6e9] [.N 922,6e9] 921 wR [] #[L,L,14 wR 1505,14 wR 1513,23e0,12e0])
def GS(s:aw):az:=(ca S5 aad 1559 1568 473 6 934)
def GT(s:aw):az:=(143 112 0 aad 939)
def GU(s:aw):az:=(ca z1 aae 1571 1575 485 1 941)
def GV(s:aw):az:=(143 112 1 aae 946)
def GW(P:aw):az:=(92 #[135 1554 gg 1438,134 1558 471 1557,1 S5 1570 940,1 z1 1577 947,1 s4 1584 954,1 S9 1595 955,1 ml 1597 958,1 lH 1599 959,de P ji 1600 .L] 4)
def GX(s:aw):az:=(98 L wS [6e9] [.N 957,6e9] 956 wS [] #[L,L,14 wS 1547,14 wS 1555,23e0,12e0])
def GY(s:aw):az:=(ca S5 aaf 1615 1622 492 4 969)
def GZ(s:aw):az:=(143 113 0 aaf 974)
def G0(s:aw):az:=(ca z1 aag 1625 1629 501 1 976)
def G1(s:aw):az:=(143 113 1 aag 981)
def G2(s:aw):az:=(ca aah aai 1632 1636 504 1 983)
def G3(s:aw):az:=(143 113 2 aai 988)
def G5(s:aw):az:=(88 #[.L])
def G6(s:aw):az:=(ca aaj aak 1646 1652 510 2 998)
def G7(s:aw):az:=(b3 (dj 113 4) aak (.N 997) gg 1438 1003)
def G8(s:aw):az:=(ca aal aam 1655 1662 517 1 1005)
def G9(s:aw):az:=(143 113 5 aam 1010)
def Ha(s:aw):az:=(ca aan aao 1665 1673 531 4 1012)
def Hb(s:aw):az:=(143 113 6 aao 1017)
def Hc(s:aw):az:=(ca aap aaq 1685 1691 549 2 1026)
def Hd(s:aw):az:=(143 113 8 aaq 1031)
def He(s:aw):az:=(ca aar aas 1694 1704 556 3 1033)
def Hf(s:aw):az:=(143 113 9 aas 1038)
def Hg(s:aw):az:=(ca aat aau 1707 1715 572 4 1040)
def Hh(s:aw):az:=(143 113 10 aau 1045)
def Hi(s:aw):az:=(ca aav aaw 1763 1770 621 3 1075)
def Hj(s:aw):az:=(143 113 15 aaw 1080)
def Hk(s:aw):az:=(ca aax aay 1781 1788 630 4 1089)
def Hl(s:aw):az:=(143 113 17 aay 1094)
def Hm(s:aw):az:=(289 #[.ag aaz 1799,.ag aaA 1800,119 1801,3 639,3 2,1e4,1e4,3 3,.N 1103,22e6,37e5,.N 1104,.L,.L,.L,.N 1105,3 1802,3 639,119 1803])
def Hn(s:aw):az:=(143 113 19 aaA 1106)
def An(P:aw):az:=(92 #[135 1610 gg 1438,134 1614 490 1613,1 S5 1624 975,1 z1 1631 982,1 aah 1638 989,1 s4 1645 996,1 aaj 1654 1004,1 aal 1664 1011,1 aan 1675 1018,1 DZ 1684 1025,1 aap 1693 1032,1 aar 1706 1039,1 aat 1717 1046,1 Yh 1730 1053,1 Yi 1741 1060,1 Yj 1752 1067,1 Yk 1762 1074,1 aav 1772 1081,1 Yl 1780 1088,1 aax 1790 1095,1 D0 1798 1102,1 aaz 1804 1107,1 S9 1811 1108,1 ml 1813 1111,1 lH 1815 1112,de P ji 1816 .L] 4)
def o1110(s:aw):az:=(98 L qn [6e9] [.N 1110,6e9] 1109 qn [] #[L,L,14 qn 1603,14 qn 1611,23e0,12e0])
def Ho(s:aw):az:=(88 #[.L,.y 200 1831])
def Hp(s:aw):az:=(ca S5 aaB 1832 1839 650 4 1123)
def Hq(s:aw):az:=(b3 (dj 114 0) aaB (.N 1122) gg 1438 1128)
def Hr(s:aw):az:=(ca aaC aaD 1842 1846 659 1 1130)
def Hs(s:aw):az:=(143 114 1 aaD 1135)
def Ht(s:aw):az:=(ca aaE aaF 1864 1869 670 2 1151)
def Hu(s:aw):az:=(143 114 4 aaF 1156)
def Hv(P:aw):az:=(92 #[135 1826 gg 1438,134 1830 648 1829,1 S5 1841 1129,1 aaC 1848 1136,1 Ym 1855 1143,1 Yn 1863 1150,1 aaE 1871 1157,1 Yo 1880 1164,1 Yp 1890 1171,1 Yq 1899 1178,1 Yr 1908 1185,1 S9 1916 1186,1 ml 1918 1189,1 lH 1920 1190,de P ji 1921 .L] 4)
def Hw(s:aw):az:=(98 L wT [6e9] [.N 1188,6e9] 1187 wT [] #[L,L,14 wT 1819,14 wT 1827,23e0,12e0])
def Hx(s:aw):az:=(98 L qn [6e9] [.N 1110,6e9] 1109 qn [.N 1293] #[L,L,14 qn 1603,14 qn 1611,23e0,12e0])
def Hy(s:aw):az:=(ca DZ aaG 1944 1951 698 3 1200)
def Hz(s:aw):az:=(155 119 0 aaG kZ 1924 1205)
def HA(s:aw):az:=(ca aaH aaI 1954 1962 715 3 1207)
def HB(s:aw):az:=(155 119 1 aaI kZ 1924 1212)
def HC(s:aw):az:=(ca D0 aaJ 1965 1973 726 2 1214)
def HD(s:aw):az:=(155 119 2 aaJ kZ 1924 1219)
def HE(s:aw):az:=(ca aaK aaL 1976 1983 736 3 1221)
def HF(s:aw):az:=(155 119 3 aaL kZ 1924 1226)
def HG(s:aw):az:=(ca aaM aaN 1986 1993 744 3 1228)
def HH(s:aw):az:=(155 119 4 aaN kZ 1924 1233)
def HI(s:aw):az:=(ca aaO aaP 1996 2004 751 3 1235)
def HJ(s:aw):az:=(155 119 5 aaP kZ 1924 1240)
def HK(s:aw):az:=(ca aaQ aaR 2007 2013 759 3 1242)
def HL(s:aw):az:=(155 119 6 aaR kZ 1924 1247)
def HM(s:aw):az:=(ca aaS aaT 2016 2021 762 2 1249)
def HN(s:aw):az:=(155 119 7 aaT kZ 1924 1254)
def HO(s:aw):az:=(ca aaU aaV 2024 2036 765 3 1256)
def HP(s:aw):az:=(155 119 8 aaV kZ 1924 1261)
def HQ(s:aw):az:=(ca aaW aaX 2039 2050 780 3 1263)
def HR(s:aw):az:=(155 119 9 aaX kZ 1924 1268)
def HS(s:aw):az:=(ca aaY aaZ 2053 2060 796 3 1270)
def HT(s:aw):az:=(155 119 10 aaZ kZ 1924 1275)
def HU(s:aw):az:=(ca aa0 aa1 2063 2071 805 3 1277)
def HV(s:aw):az:=(155 119 11 aa1 kZ 1924 1282)
def HW(s:aw):az:=(ca aa2 aa3 2074 2085 817 3 1284)
def HX(s:aw):az:=(155 119 12 aa3 kZ 1924 1289)
def HY(P:aw):az:=(92 #[135 1939 kZ 1924,134 1943 696 1942,1 DZ 1953 1206,1 aaH 1964 1213,1 D0 1975 1220,1 aaK 1985 1227,1 aaM 1995 1234,1 aaO 2006 1241,1 aaQ 2015 1248,1 aaS 2023 1255,1 aaU 2038 1262,1 aaW 2052 1269,1 aaY 2062 1276,1 aa0 2073 1283,1 aa2 2087 1290,1 S9 2089 1291,de P ji 2090 .L] 2)
def HZ(s:aw):az:=(98 L wU [.N 1110] [.N 1293,.N 1110,6e9] 1292 wU [] #[47 1193,L,14 wU 1932,14 wU 1940,23e0,12e0])
def H0(s:aw):az:=(ca S5 aa4 2107 2114 832 4 1303)
def H1(s:aw):az:=(155 121 0 aa4 aa5 2093 1308)
def H2(P:aw):az:=(92 #[135 2102 aa5 2093,134 2106 830 2105,1 S5 2116 1309,1 s4 2123 1316,1 S9 2127 1317,1 ml 2129 1320,1 lH 2131 1321,de P ji 2132 .L] 4)
def H4(s:aw):az:=(98 L wV [6e9] [.N 1319,6e9] 1318 wV [] #[L,L,14 wV 2095,14 wV 2103,23e0,12e0])
def H5(s:aw):az:=(ca z2 z2 2137 2140 840 0 1324)
def H6(s:aw):az:=(103 123 z2 1329)
def H7(s:aw):az:=(ca z3 z3 2143 2147 842 0 1331)
def H8(s:aw):az:=(103 124 z3 1336)
def H9(s:aw):az:=(ca z4 z4 2150 2154 848 1 1338)
def Ia(s:aw):az:=(103 125 z4 1343)
def Ib(s:aw):az:=(ca z5 z5 2157 2162 850 2 1345)
def Ic(s:aw):az:=(103 126 z5 1350)
def Id(s:aw):az:=(ca z6 z6 2165 2170 854 2 1352)
def Ie(s:aw):az:=(103 127 z6 1357)
def Ig(s:aw):az:=(289 #[.ag z7 2173,.ag z7 2174,119 2175,3 856,3 2,1e4,1e4,3 3,.N 1359,22e6,37e5,.N 1360,.L,.L,.L,.N 1361,3 2176,3 856,119 2177])
def Ii(s:aw):az:=(103 128 z7 1362)
def Ij(s:aw):az:=(ca z8 z8 2179 2190 874 2 1364)
def Ik(s:aw):az:=(103 129 z8 1369)
def Il(s:aw):az:=(ca z9 z9 2193 2203 894 1 1371)
def Im(s:aw):az:=(103 130 z9 1376)
def Io(s:aw):az:=(ca Aa Aa 2206 2212 914 1 1378)
def Ip(s:aw):az:=(103 131 Aa 1383)
def Iq(s:aw):az:=(289 #[.ag Ab 2215,.ag Ab 2216,119 2217,3 921,3 1,1e4,1e4,3 3,.N 1385,22e6,37e5,.N 1386,.L,.L,.L,.N 1387,3 2218,3 921,119 2219])
def Ir(s:aw):az:=(103 132 Ab 1388)
def qo(s:aw):az:=⟨.L,L,.cn #[],#[]⟩
def s7(s:aw):az:=(ca wW wW 2221 2228 928 2 1390)
def Iu(s:aw):az:=(103 133 wW 1395)
def Iv(s:aw):az:=(289 #[.ag Ac 2231,.ag Ac 2232,119 2233,3 930,3 4,1e4,1e4,3 3,.N 1397,22e6,37e5,.N 1398,.L,.L,.L,.N 1399,3 2234,3 930,119 2235])
def Iw(s:aw):az:=(103 134 Ac 1400)
def Ix(s:aw):az:=(289 #[.ag Ad 2237,.ag Ad 2238,119 2239,3 947,3 3,1e4,1e4,3 3,.N 1402,22e6,37e5,.N 1403,.L,.L,.L,.N 1404,3 2240,3 947,119 2241])
def Iy(s:aw):az:=(103 135 Ad 1405)
def Iz(s:aw):az:=(ca Ae Ae 2243 2252 964 5 1407)
def IA(s:aw):az:=(103 136 Ae 1412)
def IB(s:aw):az:=(ca Af Af 2255 2266 970 6 1414)
def IC(s:aw):az:=(103 137 Af 1419)
def ID(s:aw):az:=(ca Ag Ag 2269 2285 976 3 1421)
def IE(s:aw):az:=(103 138 Ag 1426)
def IF(s:aw):az:=(ca Ah Ah 2288 2298 995 4 1428)
def IG(s:aw):az:=(103 139 Ah 1433)
def II(s:aw):az:=(ca Ai Ai 2301 2310 1006 4 1435)
def IJ(s:aw):az:=(103 140 Ai 1440)
def IK(s:aw):az:=(ca Aj Aj 2313 2325 1015 4 1442)
def IL(s:aw):az:=(103 141 Aj 1447)
def IM(s:aw):az:=(ca Ak Ak 2328 2337 1052 3 1449)
def IO(s:aw):az:=(103 142 Ak 1454)
def IP(s:aw):az:=(ca Am Am 2340 2345 1064 1 1456)
def IQ(s:aw):az:=(103 143 Am 1461)
def IR(s:aw):az:=(289 #[.ag wX 2348,.ag wX 2349,119 2350,3 1072,3 1,1e4,1e4,3 3,.N 1463,22e6,37e5,.N 1464,.L,.L,.L,.N 1465,3 2351,3 1072,119 2352])
def uL(s:aw):az:=(103 144 wX 1466)
noncomputable def IS(P:aw):dQ:=[(12,gT 0),(13,11e2)]
noncomputable def s9(P:aw):dQ:=[(2,15e8),(0,13e0),(4,9e8),(3,34 S4 194 10 11),(12,gT 6),(13,11e2),(34,D1 P),(35,D2 P),(37,uK P),(38,o38 P)]
def oq:fH:=(53 0 3 267 15 187 0 0 0 [2,0,4,3,12,13] 42 225 5 9 22)
noncomputable def mm(P:aw):dQ:=[(37,uK P),(2,15e8),(4,9e8),(12,gT 9),(13,11e2),(38,o38v1 P),(3,34 S4 194 11 12),(0,13e0),(50,D3 P),(51,D4 P)]
def IT:fH:=(53 3 1 214 42 225 5 9 22 [37,2,4,12,13,38,3,0] 54 241 10 11 8)
noncomputable def ob3(P:aw):dQ:=[(37,uK P),(2,15e8),(4,9e8),(12,gT 12),(13,11e2),(38,o38v2 P),(3,34 S4 194 12 13),(0,13e0),(62,D5 P),(63,D6 P)]
def IU:fH:=(53 4 1 214 54 241 10 11 8 [37,2,4,12,13,38,3,0] 66 257 12 13 8)
noncomputable def ob4(P:aw):dQ:=[(37,uK P),(2,15e8),(4,9e8),(12,gT 21),(13,11e2),(38,D7 P),(3,34 nu 273 30 31),(0,13e0),(74,D8 P),(75,D9 P),(83,Ea P),(84,Eb P),(90,Ec P),(91,Ed P)]
def IV:fH:=(53 5 19 418 66 257 12 13 8 [37,2,4,12,13,38,3,0] 92 321 34 35 50)
noncomputable def ob5(P:aw):dQ:=[(4,9e8),(3,34 nu 273 43 44),(12,gT 60),(13,11e2),(104,Ee P),(105,Ef P),(139,Eg P),(140,Eh P)]
def IW:fH:=(53 24 13 407 92 321 34 35 50 [4,3,12,13] 183 441 90 94 54)
noncomputable def ob6(P:aw):dQ:=[(4,9e8),(3,34 nu 273 56 57),(12,gT 99),(13,11e2)]
def IX:fH:=(53 37 13 405 183 441 90 94 54 [4,3,12,13] 274 559 122 123 28)
noncomputable def ob7(P:aw):dQ:=[(4,9e8),(3,34 nu 273 69 70),(12,gT 129),(13,11e2),(316,Ei P),(318,Ej P),(324,Ek P),(325,El P),(331,Em P),(332,En P),(338,Eo P),(339,Ep P)]
def IY:fH:=(53 50 13 395 274 559 122 123 28 [4,3,12,13] 347 650 155 168 43)
noncomputable def ob8(P:aw):dQ:=[(4,9e8),(3,34 rz 660 75 76),(12,gT 132),(13,11e2),(352,Er P),(353,Et P)]
def IZ:fH:=(53 63 7 112 347 650 155 168 43 [4,3,12,13] 354 677 182 182 5)
noncomputable def I0(P:aw):dQ:=[(3,34 rz 660 76 77)]
def Ao:fH:=(53 70 1 74 354 677 182 182 5 [3] 355 686 183 183 10)
noncomputable def I1(P:aw):dQ:=[(3,34 rz 660 77 78)]
def Ap:fH:=(53 71 1 39 355 686 183 183 10 [3] 356 691 184 184 10)
noncomputable def aa6(P:aw):dQ:=[(2,15e8),(4,9e8),(3,34 wH 761 87 88),(12,gT 147),(13,11e2),(0,13e0),(363,Eu P),(369,Ev P),(370,Ew P),(372,Ex P),(373,Ey P),(383,Ez P),(384,EA P),(390,EB P),(391,EC P),(397,ED P),(398,EF P)]
def I2:fH:=(53 72 11 407 356 691 184 184 10 [2,4,3,12,13,0] 406 773 210 210 3)
noncomputable def I3(P:aw):dQ:=[(3,34 wH 761 88 89),(406,EG P),(407,EH P),(408,EI P),(409,EJ P),(410,EK P),(411,EL P),(412,EM P),(413,EN P),(414,EO P),(415,EP P),(416,EQ P),(417,ER P),(418,ES P)]
def Aq:fH:=(53 83 1 227 406 773 210 210 3 [3] 419 822 211 211 5)
noncomputable def I4(P:aw):dQ:=[(3,34 wH 761 89 90),(419,ET P),(420,EU P),(421,EV P),(422,EW P),(423,EX P),(424,EY P),(425,EZ P),(426,E0 P)]
def Ar:fH:=(53 84 1 130 419 822 211 211 5 [3] 427 844 212 212 6)
noncomputable def aa7(P:aw):dQ:=[(4,9e8),(3,34 eT 883 101 102),(12,gT 174),(13,11e2),(432,E1 P),(433,E3 P),(439,E4 P),(440,E5 P),(446,E6 P),(447,E7 P),(451,E8 P),(452,E9 P),(458,Fa P),(459,Fb P),(465,Fc P),(466,Fd P),(470,Fe P),(471,Ff P),(477,Fg P),(478,Fh P)]
def I5:fH:=(53 85 14 320 427 844 212 212 6 [4,3,12,13] 486 934 259 262 22)
noncomputable def aa8(P:aw):dQ:=[(2,15e8),(4,9e8),(3,34 eT 883 102 103),(12,gT 177),(13,11e2),(0,13e0),(498,Fi P),(499,Fj P),(505,Fk P),(506,Fl P),(519,Fm P),(520,Fo P),(526,Fp P),(527,Fq P),(533,Fr P),(534,Fs P),(540,Ft P),(541,Fu P),(554,Fv P),(555,Fw P),(561,Fy P),(562,Fz P),(568,FE P),(569,FF P),(575,FG P),(576,FI P),(585,FJ P),(586,FK P)]
def I6:fH:=(53 99 1 624 486 934 259 262 22 [2,4,3,12,13,0] 591 1076 263 321 16)
noncomputable def aa9(P:aw):dQ:=[(2,15e8),(4,9e8),(3,34 eT 883 103 104),(12,gT 180),(13,11e2),(0,13e0),(603,FL P),(604,FM P),(610,FN P),(611,FO P),(624,FP P),(625,FQ P),(631,FR P),(632,FS P),(638,FT P),(639,FU P),(645,FV P),(646,FW P),(652,FX P),(653,FY P),(659,FZ P),(660,Ga P),(666,Gb P),(667,Gc P),(676,Gd P),(677,Ge P)]
def I7:fH:=(53 100 1 559 591 1076 263 321 16 [2,4,3,12,13,0] 682 1201 322 372 16)
noncomputable def aba(P:aw):dQ:=[(2,15e8),(4,9e8),(3,34 eT 883 104 105),(12,gT 183),(13,11e2),(0,13e0),(694,Gf P),(695,Gg P),(725,Gh P),(726,Gi P)]
def I8:fH:=(53 101 1 352 682 1201 322 372 16 [2,4,3,12,13,0] 731 1263 373 394 16)
noncomputable def abb(P:aw):dQ:=[(2,15e8),(4,9e8),(3,34 eT 883 105 106),(12,gT 186),(13,11e2),(0,13e0),(743,Gj P),(744,Gk P),(750,Gl P),(751,Gm P),(753,Gn P),(754,Go P)]
def I9:fH:=(53 102 1 258 731 1263 373 394 16 [2,4,3,12,13,0] 759 1303 395 403 20)
noncomputable def abc(P:aw):dQ:=[(2,15e8),(4,9e8),(3,34 eT 883 106 107),(12,gT 189),(13,11e2),(0,13e0),(771,Gp P),(772,Gq P),(778,Gr P),(779,Gs P),(785,Gu P),(786,Gv P),(788,Gw P),(789,Gx P)]
def Ja:fH:=(53 103 1 289 759 1303 395 403 20 [2,4,3,12,13,0] 794 1350 404 417 20)
noncomputable def abd(P:aw):dQ:=[(2,15e8),(4,9e8),(3,34 eT 883 107 108),(12,gT 192),(13,11e2),(0,13e0),(806,Gy P),(807,Gz P),(841,GA P),(842,GB P),(848,GC P),(849,GD P),(851,GE P),(852,GF P)]
def Jb:fH:=(53 104 1 426 794 1350 404 417 20 [2,4,3,12,13,0] 857 1438 418 447 32)
noncomputable def abe(P:aw):dQ:=[(2,15e8),(4,9e8),(12,gT 195),(13,11e2),(0,13e0),(3,34 gg 1438 111 112),(869,GG P),(870,GH P),(872,GI P),(873,GJ P)]
def Jc:fH:=(53 105 5 261 857 1438 418 447 32 [2,4,12,13,0,3] 878 1477 452 456 26)
noncomputable def abf(P:aw):dQ:=[(2,15e8),(4,9e8),(3,34 gg 1438 112 113),(12,gT 198),(13,11e2),(0,13e0),(890,GK P),(891,GL P),(893,GM P),(894,GN P)]
def Jd:fH:=(53 110 1 222 878 1477 452 456 26 [2,4,3,12,13,0] 899 1505 457 460 23)
noncomputable def abg(P:aw):dQ:=[(2,15e8),(4,9e8),(3,34 gg 1438 113 114),(12,gT 201),(13,11e2),(0,13e0),(911,GO P),(912,GP P),(921,GQ P),(922,GR P)]
def Je:fH:=(53 111 1 260 899 1505 457 460 23 [2,4,3,12,13,0] 927 1547 461 470 16)
noncomputable def abh(P:aw):dQ:=[(2,15e8),(4,9e8),(3,34 gg 1438 114 115),(12,gT 204),(13,11e2),(0,13e0),(939,GS P),(940,GT P),(946,GU P),(947,GV P),(956,GW P),(957,GX P)]
def Jf:fH:=(53 112 1 298 927 1547 461 470 16 [2,4,3,12,13,0] 962 1603 471 489 16)
noncomputable def abi(P:aw):dQ:=[(2,15e8),(4,9e8),(3,34 gg 1438 115 116),(12,gT 207),(13,11e2),(0,13e0),(974,GY P),(975,GZ P),(981,G0 P),(982,G1 P),(988,G2 P),(989,G3 P),(997,G5 P),(1003,G6 P),(1004,G7 P),(1010,G8 P),(1011,G9 P),(1017,Ha P),(1018,Hb P),(1031,Hc P),(1032,Hd P),(1038,He P),(1039,Hf P),(1045,Hg P),(1046,Hh P),(1080,Hi P),(1081,Hj P),(1094,Hk P),(1095,Hl P),(1106,Hm P),(1107,Hn P),(1109,An P),(1110,o1110 P)]
def Jg:fH:=(53 113 1 865 962 1603 471 489 16 [2,4,3,12,13,0] 1115 1819 490 647 64)
noncomputable def abj(P:aw):dQ:=[(2,15e8),(4,9e8),(3,34 gg 1438 116 117),(12,gT 210),(13,11e2),(0,13e0),(1122,Ho P),(1128,Hp P),(1129,Hq P),(1135,Hr P),(1136,Hs P),(1156,Ht P),(1157,Hu P),(1187,Hv P),(1188,Hw P)]
def Jh:fH:=(53 114 1 492 1115 1819 490 647 64 [2,4,3,12,13,0] 1193 1924 648 691 17)
noncomputable def abk(P:aw):dQ:=[(3,34 kZ 1924 119 120)]
def Ji:fH:=(53 115 4 37 1193 1924 648 691 17 [3] 1193 1932 695 695 10)
noncomputable def abl(P:aw):dQ:=[(1109,An P),(2,15e8),(4,9e8),(12,gT 213),(13,11e2),(1110,Hx P),(3,34 kZ 1924 120 121),(0,13e0),(1205,Hy P),(1206,Hz P),(1212,HA P),(1213,HB P),(1219,HC P),(1220,HD P),(1226,HE P),(1227,HF P),(1233,HG P),(1234,HH P),(1240,HI P),(1241,HJ P),(1247,HK P),(1248,HL P),(1254,HM P),(1255,HN P),(1261,HO P),(1262,HP P),(1268,HQ P),(1269,HR P),(1275,HS P),(1276,HT P),(1282,HU P),(1283,HV P),(1289,HW P),(1290,HX P),(1292,HY P),(1293,HZ P)]
def Jj:fH:=(53 119 1 670 1193 1932 695 695 10 [1109,2,4,12,13,1110,3,0] 1296 2093 696 828 71)
noncomputable def abm(P:aw):dQ:=[(2,15e8),(4,9e8),(12,gT 228),(13,11e2),(0,13e0),(3,34 gh 2135 125 126),(1308,H0 P),(1309,H1 P),(1318,H2 P),(1319,H4 P),(1329,H5 P),(1330,H6 P),(1336,H7 P),(1337,H8 P),(1343,H9 P),(1344,Ia P),(1350,Ib P),(1351,Ic P)]
def Jk:fH:=(53 120 7 392 1296 2093 696 828 71 [2,4,12,13,0,3] 1352 2165 850 853 62)
noncomputable def abn(P:aw):dQ:=[(4,9e8),(3,34 gh 2135 138 139),(12,gT 267),(13,11e2),(1357,Id P),(1358,Ie P),(1362,Ig P),(1363,Ii P),(1369,Ij P),(1370,Ik P),(1376,Il P),(1377,Im P),(1383,Io P),(1384,Ip P),(1388,Iq P),(1389,Ir P),(1391,qo P),(1395,s7 P),(1396,Iu P),(1400,Iv P),(1401,Iw P),(1405,Ix P),(1406,Iy P),(1412,Iz P),(1413,IA P),(1419,IB P),(1420,IC P),(1426,ID P),(1427,IE P),(1433,IF P),(1434,IG P)]
def Jl:fH:=(53 127 13 415 1352 2165 850 853 62 [4,3,12,13] 1435 2301 995 1005 15)
noncomputable def abo(P:aw):dQ:=[(4,9e8),(3,34 gh 2135 143 144),(12,gT 282),(13,11e2),(1440,II P),(1441,IJ P),(1447,IK P),(1448,IL P),(1454,IM P),(1455,IO P),(1461,IP P),(1462,IQ P),(1466,IR P),(1467,uL P)]
def kB:fH:=(53 140 5 162 1435 2301 995 1005 15 [4,3,12,13] 1468 2354 1072 1086 70)
noncomputable def F0(P:aw):dQ:=[(0,13e0),(2,Jm P),(3,Jn P),(4,9e8)]++IS P
def nx(apu:aw->dQ)(g:fH)(ob:aw->dQ)(P:aw):dQ:=ob P++(apu P).oo λp=>!(g.s3.hU p.1)
noncomputable def F1:=nx F0 oq s9
noncomputable def F2:=nx F1 IT mm
noncomputable def F3:=nx F2 IU ob3
noncomputable def F4:=nx F3 IV ob4
noncomputable def F5:=nx F4 IW ob5
noncomputable def F6:=nx F5 IX ob6
noncomputable def F7:=nx F6 IY ob7
noncomputable def F8:=nx F7 IZ ob8
noncomputable def F9:=nx F8 Ao I0
noncomputable def Jo:=nx F9 Ap I1
noncomputable def F11:=nx Jo I2 aa6
noncomputable def F12:=nx F11 Aq I3
noncomputable def Jp:=nx F12 Ar I4
noncomputable def Jq:=nx Jp I5 aa7
noncomputable def Jr:=nx Jq I6 aa8
noncomputable def Js:=nx Jr I7 aa9
noncomputable def F17:=nx Js I8 aba
noncomputable def F18:=nx F17 I9 abb
noncomputable def F19:=nx F18 Ja abc
noncomputable def F20:=nx F19 Jb abd
noncomputable def F21:=nx F20 Jc abe
noncomputable def F22:=nx F21 Jd abf
noncomputable def F23:=nx F22 Je abg
noncomputable def F24:=nx F23 Jf abh
noncomputable def F25:=nx F24 Jg abi
noncomputable def F26:=nx F25 Jh abj
noncomputable def F27:=nx F26 Ji abk
noncomputable def F28:=nx F27 Jj abl
noncomputable def F29:=nx F28 Jk abm
noncomputable def F30:=nx F29 Jl abn
noncomputable def F31:=nx F30 kB abo
def TW(g:fH)(apu ob:aw->dQ)(w:eA):Prop:=zR ((ob w.bU).aj (·.1)) (wG g w (apu w.bU))=G (.bz,g.n1,g.iA,cT,g.p1,(ob w.bU).aj 52e6)
def TT(g:fH)(apu ob:aw->dQ):Prop:=∀w:eA,zR ((ob w.bU).aj (·.1)) (wG g w (apu w.bU))=G (.bz,g.n1,g.iA,cT,g.p1,(ob w.bU).aj 52e6)
def t0:TT oq F0 s9:=λw=>ar
def t1:TT IT F1 mm:=λw=>ar
def t2:TT IU F2 ob3:=λw=>ar
def t3:TT IV F3 ob4:=λw=>ar
def t4:TT IW F4 ob5:=λw=>ar
def apL:TT IX F5 ob6:=λw=>ar
def apM:TT IY F6 ob7:=λw=>ar
def apN:TT IZ F7 ob8:=λw=>ar
def apO:TT Ao F8 I0:=Jt "special-get-raises" (P:=TW Ao F8 I0) (λw=>by unfold TW;kernel_rfl) λw=>by unfold TW;kernel_rfl
def apP:TT Ap F9 I1:=Jt "special-get-raises" (P:=TW Ap F9 I1) (λw=>by unfold TW;kernel_rfl) λw=>by unfold TW;kernel_rfl
def t10:TT I2 Jo aa6:=λw=>ar
def t11:TT Aq F11 I3:=Jt "special-get-raises" (P:=TW Aq F11 I3) (λw=>by unfold TW;kernel_rfl) λw=>by unfold TW;kernel_rfl
def t12:TT Ar F12 I4:=Jt "special-get-raises" (P:=TW Ar F12 I4) (λw=>by unfold TW;kernel_rfl) λw=>by unfold TW;kernel_rfl
def t13:TT I5 Jp aa7:=λw=>ar
def t14:TT I6 Jq aa8:=λw=>ar
def t15:TT I7 Jr aa9:=λw=>ar
def t16:TT I8 Js aba:=λw=>ar
def t17:TT I9 F17 abb:=λw=>ar
def t18:TT Ja F18 abc:=λw=>ar
def t19:TT Jb F19 abd:=λw=>ar
def t20:TT Jc F20 abe:=λw=>ar
def t21:TT Jd F21 abf:=λw=>ar
def t22:TT Je F22 abg:=λw=>ar
def t23:TT Jf F23 abh:=λw=>ar
def t24:TT Jg F24 abi:=λw=>ar
def t25:TT Jh F25 abj:=λw=>ar
def t26:TT Ji F26 abk:=λw=>ar
def t27:TT Jj F27 abl:=λw=>ar
def t28:TT Jk F28 abm:=λw=>ar
def t29:TT Jl F29 abn:=λw=>ar
def t30:TT kB F30 abo:=λw=>ar
def wY(g6:fQ->b4 PySem.ky)(s:jF->al)(F:zL):I->Sp->jF->aq (Sp×jF)
 |0,S,t=>G (S,t)
 |n+1,S,t=>match Pi t with
  |true=>L
  |false=>match s t with
   |false=>L
   |true=>match sW g6 F S t with
    |G r=>wY g6 s F n r.1 r.2
    |L=>L
def ZB(g6:fQ->b4 PySem.ky)(s:jF->al)(F:zL)(n:I)(S:Sp)(t:jF):wY g6 s F (n+1) S t=cB (Pi t) L (cB (s t) ((sW g6 F S t).cq λr=>wY g6 s F n r.1 r.2) L):=ar
def ZC{tb:fS->aq Builtin}:∀{S x:Sp} {t t':jF} {s:ae},
  wY (rr tb) (zM n₀ ann) ⟨p,w.bU⟩ n S t=G (x,t')->rq S s->
  ∃s',topGo tb p w n₀ ann n s t=G (s',t')/\nr S x s s':=by
 induction n with
 |i4=>intro S x t t' s h R;cases h;exact⟨s,H,.fE R⟩
 |hH n b=>
  intro S x t t' s h R;rw[ZB]at h;unfold topGo;cases a:Pi t with
  |true=>rw[a]at h;cases h
  |false=>
   rw[a]at h;cases e:zM n₀ ann t with
   |false=>rw[e]at h;cases h
   |true=>
    rw[e]at h;have z:=OL (g6:=rr tb) (p:=p) (w:=w) (t:=t) R;cases hs:sW (rr tb) ⟨p,w.bU⟩ S t with
    |L=>rw[hs]at h;cases h
    |G r=>
     rw[hs]at h z;(show aM z λm e1 A=>?_;try clear z);show aM (b h A.N) λk e2 B=>?_;exact⟨k,by dsimp only;rw[e1];exact e2,A.aU B⟩
noncomputable def B0(P:aw):dQ:=[(0,13e0),(2,Jm P),(3,Jn P),(4,9e8),(1,boot_o_1 P),(5,boot_o_5 P),(6,boot_o_6 P)]
noncomputable def Ju(w:eA):aq (Sp×jF):=wY dn wF ⟨pw,w.bU⟩ 12 ⟨B0 w.bU,11,181⟩ (topStub pw)
def ZD(w:eA):(Ju w).aj (λx=>(x.1.n,x.1.tk,x.2,[0,2,3,4,12,13].aj (jD x.1.kt)))=
  G (15,187,⟨dn cT,cT,oq.p0,[uJ sY]⟩,((F0 w.bU).aj 52e6)):=ar
def Jv:dn=rr wZ:=by
 unfold dn;rw[<-PySem.W.np.te11892475500146522536,<-PySem.W.np.te14364793385576792824]
def Jw:wF=zM 11 (47 6):=by
 unfold wF;rw[<-PySem.W.np.te6613529449190102663]
def ZE(w:eA)(S:Sp):sX dn wF ⟨pw,w.bU⟩ 1 S (blockOf (zQ pw) uI cT oq.p0 [uJ sY])=G (.bz,S,cT,oq.p0):=by
 kernel_rfl
abbrev g9(h:ai)(apu:dQ):Prop:=∀p∈apu,h.ao p.1=37e7
structure St(s₀ s:ae)(apu:dQ)(n tk:I):Prop where
 d7:g9 s.M apu
 an:s.M.O.an=n
 a0:s.a0=tk
 dC:s.dC=s₀.dC
 om:s.om=s₀.om
 os:s.os=s₀.os
abbrev AN:12e4:=47 6
def ZF(t:zR (ob.aj (·.1)) (wG g w apu)=G (.bz,g.n1,g.iA,cT,g.p1,ob.aj 52e6))(apy:St s₀ s apu g.n0 g.sZ):
  ∃s',DR wZ pw w 11 AN 1 g.apC s (piecesOf (zP g.s g.k) uI cT g.p0 [uJ sY])=G (.bz,s',cT,g.p1)/\St s₀ s' (ob++apu.oo λp=>!(g.s3.hU p.1)) g.n1 g.iA:=by
 unfold zR at t;cases hr:wG g w apu with
 |L=>rw[hr]at t;cases t
 |G r=>
  obtain(⟨f,i,c,q⟩):=r;rw[hr]at t;simp only[aq.ta,aq.G.fu,kC.mk.fu]at t;(show zr t λm e1 e2 n v e3=>?_;try clear t;subst m;subst n;subst v);unfold wG at hr;rw[Jv,Jw]at hr;have R:rq ⟨DW apu g.s3,g.n0,g.sZ⟩ s:=⟨apy.an,apy.a0,λa o e=>apy.d7 _ (D.rA.mp (DP e)).1⟩;(show aM (OM hr R) λs' k1 u=>?_;obtain(⟨b,x,_,_⟩):=u);show⟨s',k1,λp h=>?_,b.an.aU e1,b.a0.aU e2,x.dC.aU apy.dC,x.om.aU apy.om,x.os.aU apy.os⟩;rcases D.lI.mp h with h|h
  ·have e4:ob.aj (λp=>jD i.kt p.1)=ob.aj λp=>37e7:=by rw[<-e3,D.rB];rfl
   exact b.jE _ _ (D.gG.mp e4 p h)
  ·show oA (D.rA.mp h) λh k=>?_;show x.bR _ _ (apy.d7 p h) ?_;cases q:jD (DW apu g.s3) p.1 with
   |L=>rfl
   |G o=>
    rw[(D.rA.mp (DP q)).2]at k;cases k
abbrev ZG(w:eA)(s₀:ae)(apu:dQ)(n tk:I)(apC:I)(s:ae)(t:jF):Prop:=∃r,Pj wZ pw w 11 AN apC s t=G r/\St s₀ r apu n tk
def fin_run(p:dz):Pj wZ pw w 11 AN 3 s ⟨doneF .bz,cT,p,[uJ sY]⟩=G s:=by
 obtain(⟨h,dC,om,a0,os⟩):=s;rfl
def CC(g:fH)(apu:aw->dQ):Prop:=∀{w:eA} {s₀ s:ae},St s₀ s (apu w.bU) g.n0 g.sZ->∃apC,ZG w s₀ (F31 w.bU) kB.n1 kB.iA apC s (restOf (pw.rt.cW.fh g.s) uI cT g.p0 [uJ sY])
def cc{apu ob:aw->dQ}(t:TT g apu ob)(a:g.s+g.k=g'.s)(e:g.n1=g'.n0/\g.iA=g'.sZ/\g.p1=g'.p0)(c:CC g' (nx apu g ob)):CC g apu:=λ{w s₀ s} apy=>by
 show aM (ZF (t w) apy) λs' h1 x=>?_;(show hT e λe1 e2 e3=>?_;try clear e);show gd (c (e1▸e2▸x)) λapC r h2 h=>?_;show⟨g.apC+apC,r,?_,h⟩;have q:pw.rt.cW.fh g.s=zP g.s g.k++pw.rt.cW.fh g'.s:=by
  unfold zP;rw[<-a,<-D.ZH,D.Jx]
 rw[q];exact piece_app h1 (e3▸h2)
def gE:fH:={kB with s:=145,n0:=kB.n1,sZ:=kB.iA,p0:=kB.p1}
def ZI:CC gE F31:=λ{w s₀ s} apy=>by
 have e:pw.rt.cW.fh gE.s=[]:=ar;rw[e];exact⟨_,s,piece_nil (fin_run _),apy⟩
def ZJ:CC kB F30:=cc (g':=gE) t30 H ⟨H,H,H⟩ ZI
def ZK:CC Jl F29:=59 t29 ZJ
def ZL:CC Jk F28:=59 t28 ZK
def ZM:CC Jj F27:=59 t27 ZL
def ZN:CC Ji F26:=59 t26 ZM
def ZO:CC Jh F25:=59 t25 ZN
def ZP:CC Jg F24:=59 t24 ZO
def ZQ:CC Jf F23:=59 t23 ZP
def ZR:CC Je F22:=59 t22 ZQ
def ZS:CC Jd F21:=59 t21 ZR
def ZT:CC Jc F20:=59 t20 ZS
def ZU:CC Jb F19:=59 t19 ZT
def ZV:CC Ja F18:=59 t18 ZU
def ZW:CC I9 F17:=59 t17 ZV
def ZX:CC I8 Js:=59 t16 ZW
def ZY:CC I7 Jr:=59 t15 ZX
def ZZ:CC I6 Jq:=59 t14 ZY
def c13:CC I5 Jp:=59 t13 ZZ
def c12:CC Ar F12:=59 t12 c13
def c11:CC Aq F11:=59 t11 c12
def c10:CC I2 Jo:=59 t10 c11
def apQ:CC Ap F9:=59 apP c10
def apR:CC Ao F8:=59 apO apQ
def apS:CC IZ F7:=59 apN apR
def apT:CC IY F6:=59 apM apS
def apU:CC IX F5:=59 apL apT
def c4:CC IW F4:=59 t4 apU
def c3:CC IV F3:=59 t3 c4
def c2:CC IU F2:=59 t2 c3
def c1:CC IT F1:=59 t1 c2
def c0:CC oq F0:=59 t0 c1
noncomputable def KW(P:aw):dQ:=[(4,9e8),
 (3,34 gh 2135 143 144),
 (12,gT 282),
 (13,11e2),
 (1440,II P),
 (1441,IJ P),
 (1447,IK P),
 (1448,IL P),
 (1454,IM P),
 (1455,IO P),
 (1461,IP P),
 (1462,IQ P),
 (1466,IR P),
 (1467,uL P),
 (1357,Id P),
 (1358,Ie P),
 (1362,Ig P),
 (1363,Ii P),
 (1369,Ij P),
 (1370,Ik P),
 (1376,Il P),
 (1377,Im P),
 (1383,Io P),
 (1384,Ip P),
 (1388,Iq P),
 (1389,Ir P),
 (1391,qo P),
 (1395,s7 P),
 (1396,Iu P),
 (1400,Iv P),
 (1401,Iw P),
 (1405,Ix P),
 (1406,Iy P),
 (1412,Iz P),
 (1413,IA P),
 (1419,IB P),
 (1420,IC P),
 (1426,ID P),
 (1427,IE P),
 (1433,IF P),
 (1434,IG P),
 (2,15e8),
 (0,13e0),
 (1308,H0 P),
 (1309,H1 P),
 (1318,H2 P),
 (1319,H4 P),
 (1329,H5 P),
 (1330,H6 P),
 (1336,H7 P),
 (1337,H8 P),
 (1343,H9 P),
 (1344,Ia P),
 (1350,Ib P),
 (1351,Ic P),
 (1109,An P),
 (1110,Hx P),
 (1205,Hy P),
 (1206,Hz P),
 (1212,HA P),
 (1213,HB P),
 (1219,HC P),
 (1220,HD P),
 (1226,HE P),
 (1227,HF P),
 (1233,HG P),
 (1234,HH P),
 (1240,HI P),
 (1241,HJ P),
 (1247,HK P),
 (1248,HL P),
 (1254,HM P),
 (1255,HN P),
 (1261,HO P),
 (1262,HP P),
 (1268,HQ P),
 (1269,HR P),
 (1275,HS P),
 (1276,HT P),
 (1282,HU P),
 (1283,HV P),
 (1289,HW P),
 (1290,HX P),
 (1292,HY P),
 (1293,HZ P),
 (1122,Ho P),
 (1128,Hp P),
 (1129,Hq P),
 (1135,Hr P),
 (1136,Hs P),
 (1156,Ht P),
 (1157,Hu P),
 (1187,Hv P),
 (1188,Hw P),
 (974,GY P),
 (975,GZ P),
 (981,G0 P),
 (982,G1 P),
 (988,G2 P),
 (989,G3 P),
 (997,G5 P),
 (1003,G6 P),
 (1004,G7 P),
 (1010,G8 P),
 (1011,G9 P),
 (1017,Ha P),
 (1018,Hb P),
 (1031,Hc P),
 (1032,Hd P),
 (1038,He P),
 (1039,Hf P),
 (1045,Hg P),
 (1046,Hh P),
 (1080,Hi P),
 (1081,Hj P),
 (1094,Hk P),
 (1095,Hl P),
 (1106,Hm P),
 (1107,Hn P),
 (939,GS P),
 (940,GT P),
 (946,GU P),
 (947,GV P),
 (956,GW P),
 (957,GX P),
 (911,GO P),
 (912,GP P),
 (921,GQ P),
 (922,GR P),
 (890,GK P),
 (891,GL P),
 (893,GM P),
 (894,GN P),
 (869,GG P),
 (870,GH P),
 (872,GI P),
 (873,GJ P),
 (806,Gy P),
 (807,Gz P),
 (841,GA P),
 (842,GB P),
 (848,GC P),
 (849,GD P),
 (851,GE P),
 (852,GF P),
 (771,Gp P),
 (772,Gq P),
 (778,Gr P),
 (779,Gs P),
 (785,Gu P),
 (786,Gv P),
 (788,Gw P),
 (789,Gx P),
 (743,Gj P),
 (744,Gk P),
 (750,Gl P),
 (751,Gm P),
 (753,Gn P),
 (754,Go P),
 (694,Gf P),
 (695,Gg P),
 (725,Gh P),
 (726,Gi P),
 (603,FL P),
 (604,FM P),
 (610,FN P),
 (611,FO P),
 (624,FP P),
 (625,FQ P),
 (631,FR P),
 (632,FS P),
 (638,FT P),
 (639,FU P),
 (645,FV P),
 (646,FW P),
 (652,FX P),
 (653,FY P),
 (659,FZ P),
 (660,Ga P),
 (666,Gb P),
 (667,Gc P),
 (676,Gd P),
 (677,Ge P),
 (498,Fi P),
 (499,Fj P),
 (505,Fk P),
 (506,Fl P),
 (519,Fm P),
 (520,Fo P),
 (526,Fp P),
 (527,Fq P),
 (533,Fr P),
 (534,Fs P),
 (540,Ft P),
 (541,Fu P),
 (554,Fv P),
 (555,Fw P),
 (561,Fy P),
 (562,Fz P),
 (568,FE P),
 (569,FF P),
 (575,FG P),
 (576,FI P),
 (585,FJ P),
 (586,FK P),
 (432,E1 P),
 (433,E3 P),
 (439,E4 P),
 (440,E5 P),
 (446,E6 P),
 (447,E7 P),
 (451,E8 P),
 (452,E9 P),
 (458,Fa P),
 (459,Fb P),
 (465,Fc P),
 (466,Fd P),
 (470,Fe P),
 (471,Ff P),
 (477,Fg P),
 (478,Fh P),
 (419,ET P),
 (420,EU P),
 (421,EV P),
 (422,EW P),
 (423,EX P),
 (424,EY P),
 (425,EZ P),
 (426,E0 P),
 (406,EG P),
 (407,EH P),
 (408,EI P),
 (409,EJ P),
 (410,EK P),
 (411,EL P),
 (412,EM P),
 (413,EN P),
 (414,EO P),
 (415,EP P),
 (416,EQ P),
 (417,ER P),
 (418,ES P),
 (363,Eu P),
 (369,Ev P),
 (370,Ew P),
 (372,Ex P),
 (373,Ey P),
 (383,Ez P),
 (384,EA P),
 (390,EB P),
 (391,EC P),
 (397,ED P),
 (398,EF P),
 (352,Er P),
 (353,Et P),
 (316,Ei P),
 (318,Ej P),
 (324,Ek P),
 (325,El P),
 (331,Em P),
 (332,En P),
 (338,Eo P),
 (339,Ep P),
 (104,Ee P),
 (105,Ef P),
 (139,Eg P),
 (140,Eh P),
 (37,uK P),
 (38,D7 P),
 (74,D8 P),
 (75,D9 P),
 (83,Ea P),
 (84,Eb P),
 (90,Ec P),
 (91,Ed P),
 (62,D5 P),
 (63,D6 P),
 (50,D3 P),
 (51,D4 P),
 (34,D1 P),
 (35,D2 P)]
noncomputable def KL(P:aw):dQ:=[(4,9e8),
 (3,34 gh 2135 143 144),
 (12,gT 282),
 (13,11e2),
 (1440,II P),
 (1441,IJ P),
 (1447,IK P),
 (1448,IL P),
 (1454,IM P),
 (1455,IO P),
 (1461,IP P),
 (1462,IQ P),
 (1466,IR P),
 (1467,uL P),
 (1357,Id P),
 (1358,Ie P),
 (1362,Ig P),
 (1363,Ii P),
 (1369,Ij P),
 (1370,Ik P),
 (1376,Il P),
 (1377,Im P),
 (1383,Io P),
 (1384,Ip P),
 (1388,Iq P),
 (1389,Ir P),
 (1395,s7 P),
 (1396,Iu P),
 (1400,Iv P),
 (1401,Iw P),
 (1405,Ix P),
 (1406,Iy P),
 (1412,Iz P),
 (1413,IA P),
 (1419,IB P),
 (1420,IC P),
 (1426,ID P),
 (1427,IE P),
 (1433,IF P),
 (1434,IG P),
 (2,15e8),
 (0,13e0),
 (1308,H0 P),
 (1309,H1 P),
 (1318,H2 P),
 (1319,H4 P),
 (1329,H5 P),
 (1330,H6 P),
 (1336,H7 P),
 (1337,H8 P),
 (1343,H9 P),
 (1344,Ia P),
 (1350,Ib P),
 (1351,Ic P),
 (1109,An P),
 (1110,Hx P),
 (1205,Hy P),
 (1206,Hz P),
 (1212,HA P),
 (1213,HB P),
 (1219,HC P),
 (1220,HD P),
 (1226,HE P),
 (1227,HF P),
 (1233,HG P),
 (1234,HH P),
 (1240,HI P),
 (1241,HJ P),
 (1247,HK P),
 (1248,HL P),
 (1254,HM P),
 (1255,HN P),
 (1261,HO P),
 (1262,HP P),
 (1268,HQ P),
 (1269,HR P),
 (1275,HS P),
 (1276,HT P),
 (1282,HU P),
 (1283,HV P),
 (1289,HW P),
 (1290,HX P),
 (1292,HY P),
 (1293,HZ P),
 (1122,Ho P),
 (1128,Hp P),
 (1129,Hq P),
 (1135,Hr P),
 (1136,Hs P),
 (1156,Ht P),
 (1157,Hu P),
 (1187,Hv P),
 (1188,Hw P),
 (974,GY P),
 (975,GZ P),
 (981,G0 P),
 (982,G1 P),
 (988,G2 P),
 (989,G3 P),
 (997,G5 P),
 (1003,G6 P),
 (1004,G7 P),
 (1010,G8 P),
 (1011,G9 P),
 (1017,Ha P),
 (1018,Hb P),
 (1031,Hc P),
 (1032,Hd P),
 (1038,He P),
 (1039,Hf P),
 (1045,Hg P),
 (1046,Hh P),
 (1080,Hi P),
 (1081,Hj P),
 (1094,Hk P),
 (1095,Hl P),
 (1106,Hm P),
 (1107,Hn P),
 (939,GS P),
 (940,GT P),
 (946,GU P),
 (947,GV P),
 (956,GW P),
 (957,GX P),
 (911,GO P),
 (912,GP P),
 (921,GQ P),
 (922,GR P),
 (890,GK P),
 (891,GL P),
 (893,GM P),
 (894,GN P),
 (869,GG P),
 (870,GH P),
 (872,GI P),
 (873,GJ P),
 (806,Gy P),
 (807,Gz P),
 (841,GA P),
 (842,GB P),
 (848,GC P),
 (849,GD P),
 (851,GE P),
 (852,GF P),
 (771,Gp P),
 (772,Gq P),
 (778,Gr P),
 (779,Gs P),
 (785,Gu P),
 (786,Gv P),
 (788,Gw P),
 (789,Gx P),
 (743,Gj P),
 (744,Gk P),
 (750,Gl P),
 (751,Gm P),
 (753,Gn P),
 (754,Go P),
 (694,Gf P),
 (695,Gg P),
 (725,Gh P),
 (726,Gi P),
 (603,FL P),
 (604,FM P),
 (610,FN P),
 (611,FO P),
 (624,FP P),
 (625,FQ P),
 (631,FR P),
 (632,FS P),
 (638,FT P),
 (639,FU P),
 (645,FV P),
 (646,FW P),
 (652,FX P),
 (653,FY P),
 (659,FZ P),
 (660,Ga P),
 (666,Gb P),
 (667,Gc P),
 (676,Gd P),
 (677,Ge P),
 (498,Fi P),
 (499,Fj P),
 (505,Fk P),
 (506,Fl P),
 (519,Fm P),
 (520,Fo P),
 (526,Fp P),
 (527,Fq P),
 (533,Fr P),
 (534,Fs P),
 (540,Ft P),
 (541,Fu P),
 (554,Fv P),
 (555,Fw P),
 (561,Fy P),
 (562,Fz P),
 (568,FE P),
 (569,FF P),
 (575,FG P),
 (576,FI P),
 (585,FJ P),
 (586,FK P),
 (432,E1 P),
 (433,E3 P),
 (439,E4 P),
 (440,E5 P),
 (446,E6 P),
 (447,E7 P),
 (451,E8 P),
 (452,E9 P),
 (458,Fa P),
 (459,Fb P),
 (465,Fc P),
 (466,Fd P),
 (470,Fe P),
 (471,Ff P),
 (477,Fg P),
 (478,Fh P),
 (419,ET P),
 (420,EU P),
 (421,EV P),
 (422,EW P),
 (423,EX P),
 (424,EY P),
 (425,EZ P),
 (426,E0 P),
 (406,EG P),
 (407,EH P),
 (408,EI P),
 (409,EJ P),
 (410,EK P),
 (411,EL P),
 (412,EM P),
 (413,EN P),
 (414,EO P),
 (415,EP P),
 (416,EQ P),
 (417,ER P),
 (418,ES P),
 (363,Eu P),
 (369,Ev P),
 (370,Ew P),
 (372,Ex P),
 (373,Ey P),
 (383,Ez P),
 (384,EA P),
 (390,EB P),
 (391,EC P),
 (397,ED P),
 (398,EF P),
 (352,Er P),
 (353,Et P),
 (316,Ei P),
 (318,Ej P),
 (324,Ek P),
 (325,El P),
 (331,Em P),
 (332,En P),
 (338,Eo P),
 (339,Ep P),
 (104,Ee P),
 (105,Ef P),
 (139,Eg P),
 (140,Eh P),
 (37,uK P),
 (38,D7 P),
 (74,D8 P),
 (75,D9 P),
 (83,Ea P),
 (84,Eb P),
 (90,Ec P),
 (91,Ed P),
 (62,D5 P),
 (63,D6 P),
 (50,D3 P),
 (51,D4 P),
 (34,D1 P),
 (35,D2 P)]
def KL_eq(P:aw):F31 P=KW P:=ar
def Z0(P:aw):KW P=(8e0).fG 26++(1391,qo P)::(8e0).fh 26:=ar
def As(P:aw):∀p∈KL P,p∈KW P:=by
 intro p s;rw[Z0];rw[<-D.Jx 26 8e0]at s;rcases D.lI.mp s with h|h
 ·exact D.w0 _ h
 ·exact D.uM _ (54 h)
def top_run(h:s₀.M=boot_heap w.bU)(u:s₀.a0=181):
  ∃apC r,Pj wZ pw w 11 AN apC s₀ (topStub pw)=G r/\St s₀ r 40e1 kB.n1 kB.iA:=by
 have p:=ZD w;cases hr:Ju w with
 |L=>rw[hr]at p;cases p
 |G x=>
  obtain⟨S,t⟩:=x;rw[hr]at p;simp only[aq.ta,aq.G.fu,kC.mk.fu]at p;(show lG p λe1 e2 v e3=>?_;try clear p;subst v);unfold Ju at hr;rw[Jv,Jw]at hr;have R:rq ⟨B0 w.bU,11,181⟩ s₀:=⟨by rw[h];rfl,u,λa o e=>by
   have m:=DP e
   rw[h]
   clear e
   simp only[B0,D.eR,D.mn,mo,kC.mk.fu]at m
   rcases m with⟨H,H⟩|⟨H,H⟩|⟨H,H⟩|⟨H,H⟩|⟨H,H⟩|⟨H,H⟩|⟨H,H⟩<;>rfl⟩
  (show aM (ZC hr R) λk k1 v=>?_;obtain(⟨s,n,_,_⟩):=v);have apy:St s₀ k (F0 w.bU) oq.n0 oq.sZ:=⟨λp m=>by
   have e4:(F0 w.bU).aj (λp=>jD S.kt p.1)=(F0 w.bU).aj λp=>37e7:=by
    rw[<-e3];rfl
   exact s.jE _ _ (D.gG.mp e4 p m),s.an.aU e1,s.a0.aU e2,n.dC,n.om,n.os⟩
  clear n;show gd (c0 apy) λapC r k2 q=>?_;clear apy;have b:=ZE w S;rw[Jv,Jw]at b;show aM (OM b s) λj k3 l=>?_;have e5:j=k:=by
   have:DR wZ pw w 11 AN 1 1 k (blockOf (zQ pw) uI cT oq.p0 [uJ sY])=G (.bz,k,cT,oq.p0):=cH;rw[a9]at k3;simp only[aq.G.fu,kC.mk.fu]at k3;exact k3.2.1.bh
  subst e5;have i:zQ pw=pw.rt.cW.fh oq.s:=ar;show⟨_,r,go_top k1 (piece_block (b:=zQ pw) k3 (by rw[i];exact k2)),?_⟩;rw[KL_eq]at q;exact q
universe e
section
open PySem PySem.W PyProof.Rows PySem.Calls PySem.Spec
set_option backward.match.sparseCases false
abbrev rC:OD:=PySem.Challenge.rw_nm0174_01
section
variable{P:aw}{h:ai}(A:g9 h (KL P))
include A
def pe(a:I)(o:az)(hm:(8e0).nv (353 a)=G (a,o)):14e4=0e4:=A _ (D.uN hm)
def k0:h.ao mU=G 13e0:=pe A 0 _ ar
def k2:h.ao rD=G 15e8:=pe A 2 _ ar
def k3:h.ao iB=G (34 gh 2135 143 144):=pe A 3 _ ar
def k4:h.ao 4=G 9e8:=pe A 4 _ ar
def pf:h.ou iB=true:=by unfold ai.ou;rw[k3 A];kernel_rfl
def At:h.ou mU=true:=by unfold ai.ou;rw[k0 A];kernel_rfl
def Jy:h.ou rD=true:=by unfold ai.ou;rw[k2 A];kernel_rfl
def acc_ok:h.abs []=true:=by
 have e:h.uO rD=[S2,S3]:=by unfold ai.uO;rw[k2 A];kernel_rfl
 unfold ai.abs;rw[Jy A,e];kernel_rfl
def abt(e2:h₀.ao rD=G (Jm P)):staticsOk [] h₀ h=true:=by
 have e:h.uO rD=[S2,S3]:=by unfold ai.uO;rw[k2 A];kernel_rfl
 have e0:h₀.uO rD=[]:=by unfold ai.uO;rw[e2];kernel_rfl
 have n0:h₀.ou rD=true:=by unfold ai.ou;rw[e2];kernel_rfl
 have x:(S2.opensWith "type.__subclasses__.")=true:=ar;have s:(S3.opensWith "type.__subclasses__.")=true:=ar;unfold staticsOk;rw[n0,Jy A,e,e0];simp only[D.uP,D.tc,D.all_nil,x,s,al.true_or,al.td,al.Pk]
def abu:namesBound pw h=true:=by
 unfold namesBound;rw[pf A];unfold ai.uO;rw[k3 A];kernel_rfl
def abv(e3:h₀.ao iB=G (Jn P)):laidKept h₀ h=true:=by
 have n0:h₀.ou iB=true:=by unfold ai.ou;rw[e3];kernel_rfl
 unfold laidKept;rw[n0,pf A];unfold ai.jG;rw[e3,k3 A];kernel_rfl
def abw:h.bltView=bltViewBooted:=by
 unfold ai.bltView ai.nsPairs;rw[k0 A];kernel_rfl
def glb:builtinsGlobalAsBooted h:=by
 show⟨4,9e8,?_,k4 A,ar,ar⟩;rw[Pin.Pl (pf A)];unfold ai.jG;rw[k3 A];kernel_rfl
def abx:isTheDefsW pw h 51e7:=by
 show⟨1467,uL P,zN (eg 144) wX .L (.ag gh 2135) (.N 1466),DT (eg 144),uH (eg 144),DU (eg 144),?_,pe A 1467 _ ar,ar,ar,ar,ar,ar,ar,ar,ar,ar,ar,.a2 ⟨ar,ar⟩,[],ar,.a2 (238 ar)⟩;rw[Pin.Pl (pf A)];unfold ai.jG;rw[k3 A];kernel_rfl
universe e
def Pm(w:eA):(∃s,AfterRun (opening pw) w s)/\∀s,AfterRun (opening pw) w s->∃s₀,fenceModules? pw s=G s₀/\s₀.dC= #[]/\∃r,TopRan pw w s₀ r/\r.Jz/\r.dC= #[]/\g9 r.M 40e1/\r.M.O.an=kB.n1:=by
 have h:=boot_open (p:=pw) (apC:=1000) ar cH (λs=>ar) w;rw[<-aby]at h;show aM (aq.ha.mp h) λs₀ h2 e=>?_;simp only[kC.mk.fu]at e;(show lG e λk i apA t=>?_;try clear e);show aM (aq.k7.mp h2) λs n d=>?_;have A:=AfterImport.of_importEnds n;clear n;show⟨⟨s,A⟩,λs' S=>?_⟩;obtain H:s'=s:=AfterImport.unique S A;have z:s₀.Jz:=ae.Pn (fence_lifeW d) A.sV;show gd (top_run (s₀:=s₀) k (by rw[t];kernel_rfl)) λapC r hr apy=>?_;rw[<-aby]at hr;show lG (topRun_spec _ _ _ _ z hr) λa l os fr=>?_;have v:=apy.d7;have apu:g9 r.M (KL w.bU):=λp R=>v p (As _ p R);have g1:r.dC= #[]:=apy.dC.aU i;have j:importedModules pw.rt.cW=[]:=ar;have e2:s₀.M.ao rD=G (Jm w.bU):=by rw[k];rfl
 have e3:s₀.M.ao iB=G (Jn w.bU):=by rw[k];rfl
 have f:s₀.M.ou iB=true:=by unfold ai.ou;rw[e3];kernel_rfl
 have P:s₀.M.jG iB "__annotations__" =47 6:=by unfold ai.jG;rw[e3];kernel_rfl
 have apq:s₀.M.O.an=11:=by rw[k];rfl
 show⟨s₀,d,i,r,⟨a,l,ae.rest_eq os,λb o u m=>fr b o (apq▸ai.cP u) (λq=>m (.a2 q)) (λq=>m (.aD (.a2 q))) (λq=>m (79 ((Pin.Pl f _).aU (P.aU q)))) u,
  ?_,?_,Pin.keysAreStrs_of (pf apu),λx app=>(Pin.builtinOf_eq (At apu) x).aU (ai.of_bltView (At apu) (abw apu) x app),glb apu,λg c=>by rw[g1]at c;simp at c,names_of_bound (abu apu),laid_of_kept (abv apu e3)⟩,ae.Pn l z,g1,v,apy.an⟩
 ·rw[j];exact ai.accountedI_of_ok (acc_ok apu)
 ·rw[j];exact statics_of_ok (abt apu e2)
abbrev jH:RowW:=rC.bw.toRowW
universe e
section
open PySem PySem.W PyProof.Rows
set_option backward.match.sparseCases false
namespace BA
def k8:JA.owners.bY (fS.ofList ['y','a','r','r','a','e','t','y','b'].er)=G JA.sig_bytearray:=ar
def JD:343 "__getitem__" "bytearray.__getitem__" :=
 348 "__getitem__" kF
  (by first|exact .a2 (by decide+cm)|exact .aD (by decide+cm)) (30e9)
def abz:343 "__setitem__" "bytearray.__setitem__" :=
 348 "__setitem__" kF
  (by first|exact .a2 (by decide+cm)|exact .aD (by decide+cm)) (30e9)
def JG:343 "__len__" "bytearray.__len__" :=
 348 "__len__" kF
  (by first|exact .a2 (by decide+cm)|exact .aD (by decide+cm)) (30e9)
def Po:343 "__iter__" "bytearray.__iter__" :=
 348 "__iter__" kF
  (by first|exact .a2 (by decide+cm)|exact .aD (by decide+cm)) (30e9)
def abA:343 "__init__" "bytearray.__init__" :=
 348 "__init__" kF
  (by first|exact .a2 (by decide+cm)|exact .aD (by decide+cm)) (30e9)
def JH:343 "extend" "bytearray.extend" :=
 348 "extend" kF
  (by first|exact .a2 (by decide+cm)|exact .aD (by decide+cm)) (30e9)
def abB:mV lJ "bytearray.__getitem__" =G Builtin.«bytearray.__getitem__»:=uQ ar
def abC:mV lJ "bytearray.__setitem__" =G Builtin.«bytearray.__setitem__»:=uQ ar
def entry_len:mV lJ "bytearray.__len__" =G Builtin.«bytearray.__len__»:=uQ ar
def abD:mV lJ "bytearray.__iter__" =G Builtin.«bytearray.__iter__»:=uQ ar
def abE:mV lJ "bytearray.__init__" =G Builtin.«bytearray.__init__»:=uQ ar
def abF:mV lJ "bytearray.extend" =G Builtin.«bytearray.extend»:=uQ ar
def abG(a b:af):kG "bytearray.__getitem__" (61 [a,b]):=by
 unfold kG;rw[314 "bytearray.__getitem__" ['_','_','m','e','t','i','t','e','g','_','_'] ['y','a','r','r','a','e','t','y','b'] k8];kernel_rfl
def abH(a b c:af):kG "bytearray.__setitem__" (61 [a,b,c]):=by
 unfold kG;rw[314 "bytearray.__setitem__" ['_','_','m','e','t','i','t','e','s','_','_'] ['y','a','r','r','a','e','t','y','b'] k8];kernel_rfl
def abI(a:af):kG "bytearray.__len__" (61 [a]):=by
 unfold kG;rw[314 "bytearray.__len__" ['_','_','n','e','l','_','_'] ['y','a','r','r','a','e','t','y','b'] k8];kernel_rfl
def abJ(a:af):kG "bytearray.__iter__" (61 [a]):=by
 unfold kG;rw[314 "bytearray.__iter__" ['_','_','r','e','t','i','_','_'] ['y','a','r','r','a','e','t','y','b'] k8];kernel_rfl
def abK(a b:af):kG "bytearray.__init__" (61 [a,b]):=by
 unfold kG;rw[314 "bytearray.__init__" ['_','_','t','i','n','i','_','_'] ['y','a','r','r','a','e','t','y','b'] k8];kernel_rfl
def abL(a b:af):kG "bytearray.extend" (61 [a,b]):=by
 unfold kG;rw[314 "bytearray.extend" ['d','n','e','t','x','e'] ['y','a','r','r','a','e','t','y','b'] k8];kernel_rfl
universe e BA
universe e
section
open PySem PySem.W PyProof.Rows PySem.Spec PySem.SeqAt Builtin
set_option backward.match.sparseCases false
section
variable{bb:gR}{w:eA}{A:df}{E:af->ae->Prop}{s:ae}
def JI{a:aH}{l u:af}{lo b:8e5}{Q:af×af×af->ae->Prop}(r:s.M.rE a l u .L)(p:la l lo)(k:la u b)
  (h:Q (uR lo,uR b,uR L) s):41 (dK.Pp 2e2):=by
 (show dU r λo e n hd=>?_;try clear r);unfold dK.Pp;show cK (hG (x:= .L) e hd H λm=>?_);kby_none;show wpAny_ite (KBy.ite_no (413 ((af.L==iC 0)=true)) ?_);show cK (hG (x:=l) e hd H λm=>?_);cases p<;>cases k<;>(first
  |(kby_none;(show bf (hG (x:= .L) e hd H ?_));kby_none)
  |(kby_none;(show bf (hG (x:= .y _ _) e hd H ?_));kby_int)
  |(kby_int;(show bf (hG (x:= .L) e hd H ?_));kby_none)
  |(kby_int;(show bf (hG (x:= .y _ _) e hd H ?_));kby_int))<;>show 20e3
 all_goals exact h
abbrev fi(b:4e9):az:=(315 26e7 (.qp 20e6 0))
def uS{Q:bO bd->ae->Prop}(x:4e4=15e1)(h:Q 20e6 s):41 (dK.w3 2e2):=by
 unfold dK.w3 dK.payload?;exact 167 (rm x (bW 22e3))
def Pq{Q:8e5->ae->Prop}(x:s.M.rE a l u .L)(h:Q L s):41 (dK.Pr 2e2):=by
 (show dU x λo e b hd=>?_;try clear x);unfold dK.Pr;exact bf (iP ⟨o,e,b⟩ abM 22e3)
def abN{Q:0e5}(hz:106 b.U)(h:Q 9e9 (281 (fi b))):41 (dK.Ps 20e6):=by
 unfold dK.Ps;exact qr h (by refine(188 b)<=_;rw[f0];exact hz)
def abO{a sl:aH}{b:4e9}{l u:af}{lo x:8e5}{Q:0e5}(n:4e4=15e1)(k:s.M.rE sl l u .L)(v:la l lo)(q:la u x)
  (hz:106 (KBy.Au 20e6 lo x).f3.U) (h:Q 9e9 (281 (fi (KBy.Au 20e6 lo x).f3))):41 (ph 2e2 29e7):=by
 have m:47e7 :=(51 n);show wpAny_getItem_slot m ap BA.JD (nw BA.JD m BA.abB ?_ (BA.abG _ _));refine aX _ _ (dK.Pr 29e7>>=λr=>_) _ _ s;show cK (Pq k λp=>?_);show dU (id k) λo i j hd=>?_;show cK (tf ⟨o,i,j⟩ λp=>?_);refine aX _ _ (dK.Pp 29e7>>=λr=>_) _ _ s;show cK (JI k v q λp=>?_);show cK (uS n λp=>?_);show cK (gt (Pt lo x L b.U (λe=>19e2)) λp=>?_);refine aX _ _ (dK.Ps (KBy.Au 20e6 lo x)>>=λr=>_) _ _ s;show bf (abN (b:=(KBy.Au 20e6 lo x).f3) hz (bW ⟨_,H,h⟩))
universe e
universe e
section
open PySem PySem.W PyProof.Rows PySem.Spec PySem.SeqAt
open Builtin hiding id
set_option backward.match.sparseCases true
section
variable{bb:gR}{w:eA}{A:df}{E:af->ae->Prop}{s:ae}
def dF{c:Prop}[d:rg c]{t:c->al}{e:¬c->al}(h:¬c)(s:e h=false):dite c t e=false:=(dif_neg h).aU s
def abP{id pj p f1 f2 apV apW apX f6 f7}(g:Pu.hU id=false)(a:∀v t k q,f6 id v t k q=false)(s:∀x,f7 x=false):
  dK.w4.match_1 (λb=>al) (.bI id pj,p) f1 f2 apV apW apX f6 f7=false:=by
 have ne:∀i,Pu.hU i=true->id≠i:=λi h e=>al.Oz ((e▸g).bh.aU h);delta dK.w4.match_1 dK.w4._sparseCasesOn_1;show dF (ne "bytearray.__contains__" 9e2) <| dF (ne "bytearray.__mod__" 9e2) <| dF (ne "bytearray.__rmod__" 9e2) <| dF (ne "_struct.pack_into.held" 9e2) <| dF (ne "bytearray.find.held" 9e2) ?_;obtain⟨aT,r⟩:=pj;cases aT
 ·exact s _
 ·exact a ..
set_option tactic.hygienic true in
theorem Pv{Q:29e1}(u:A.j5=G [])(h:Q false s):133 A (dK.w4 2e2) Q E s:=by
 intro Γ p n hd r;have m:guardsOf ((Γ.dG,p)::Γ.uD)=[]:=(guardsOf_cons ..).aU (n.2.2.2.1 [] u);have cQ:∀b,b=false->Q b s:=λb e=>e▸h;show cQ (((Γ.dG,p)::Γ.uD).fN _) (D.any_eq_false.bl λc x=>al.abQ.mp ?_);have h1:c.1.isGuard=false:=al.abQ.bl (D.filter_eq_nil_iff.mp m _ (D.ow x));have h2:=Cl.sQ hd r c x;clear m x r hd n;obtain⟨c,p⟩:=c;cases c using fQ.cD;case bI id pj=>exact abP h1 (λv t k q=>by rw[show dK.wv.hU _=false from h2];exact al.and_false _) λi=>rfl
 all_goals rfl
def Pw{Q:137 I}(x:4e4=15e1)(h:Q 0 s):41 (dK.JJ 2e2):=by
 unfold dK.JJ;exact bf (rm x 22e3)
def Px{Q:17e3}(e:A.j5=G [])(x:4e4=15e1)(h:Q () s):133 A (dK.JK 2e2) Q E s:=by
 unfold dK.JK;show aY (m:=(dK.w4 2e2 <||> (do return(<-dK.JJ 2e2)>0))) (aY (Pv e ?_));exact 164 (Pw x (bG (bG h)))
def w5{f:bO bd->bO bd}{Q:17e3}(x:4e4=15e1)(hz:106 (f 20e6).an)
  (h:∀h',18e4=282 (f 20e6).f3->166 a h'->157 ()):41 (dK.uT 2e2 f):=by
 unfold dK.uT updateBytearray;show cK (rm x λr=>?_);have e:(s.M.eM a (az.mapBytearray f)).ao a=282 (f 20e6).f3:=258 x H;show bf (abR x (abS e ?_ (h _ e (ai.fy.eM ..))));refine(uU.qp (f 20e6) 0).pastItsLine=L;unfold uU.pastItsLine;dsimp only;rw[d5 (by rw[f0];exact I.du.bl hz)]
universe e
set_option backward.match.sparseCases false
section
variable{bb:gR}{w:eA}{A:df}{E:af->ae->Prop}{s:ae}
def JL{R:43e9}{id:fS}{x:Args}{b:Builtin}(r:mV lJ id=G b)(p:dK.wv.hU id=false)
  (h:aL 6e2 (A.hF (.bI id x)) (b x)
   (λef s'=>match ef with| .kx f=>218 f s'| .mg a=>a.sR=true/\96 A a R s') (14e7) s):
  96 A (.bI id x) R s:=by
 show mf p ?_;refine aL _ _ (match mV lJ id with|G b=>b x|L=>X1 ((withoutEnding? id "#data").ge id)) _ _ s;rw[r];exact h
def JM{R:43e9}{id:fS}{x:Args}{b:Builtin}(r:plainId id=true)(v:dK.wv.hU id=false)(m:mV lJ id=G b)
  (h:aX 6e2 A.fg (w6 id x) (λa p=>aL 6e2 A.fg (b x)
   (λef s'=>match ef with| .kx f=>218 f s'| .mg k=>k.sR=true/\96 A k R s') (14e7) p)
   (14e7) s):96 A (.aW (.bI id) x) R s:=by
 show mf H ?_;refine aL _ A.fg (do w6 id x;mg (.bI id x)) _ _ s;show 147 h (λa p n=>bG (i3.nq (Av r x) (JL m v ?_))) 26e8;rw[df.Py r x];exact n
def abT{apq q b:fS}{n:Builtin}{a:2e4}{Q Q₁:0e5}(ft:TypeCalled apq q b)
  (hct:abU apq (61 a)=b8 ()) (abV:mV lJ b=G n) (abW:dK.wv.hU b=false)
  (JN:uV 6e2 A.fg (.aW (.bI q) ⟨42e7::a,[]⟩) (uW Q₁ E) s)
  (JO:∀Z p,Q₁ Z p->p.kH Z apq/\kG b ⟨Z::a,[]⟩/\
   aL 6e2 A.fg.fg (n ⟨Z::a,[]⟩)
    (λef s'=>match ef with| .kx f=>uW (λr x=>r= .L/\Q Z x) E (.Y f) s'| .mg v=>v.sR=true/\96 A.fg v (uW (λr x=>r= .L/\Q Z x) E) s')
    (λe s'=>uW (λr x=>r= .L/\Q Z x) E (.dH e) s') p):
  133 A (aW 42e7 a) Q E s:=by
 show qe ft.qs λc g j=>?_;have l:=ft.made;have t:=ft.a1;have h1:=ft.notType;have h2:=ft.canCreate;show rh (mf H ?_);refine aL _ _ (sS 42e7 _) _ _ _;show bG ⟨fQ.Pz _ 9e2,JL apu.entry_type_call 9e2 ?_⟩;rw[df.under_plain (weight_type_call_type apq a []) H];unfold Builtin.«type.__call__»;dsimp only;rw[d5 (by rw[h1];decide)];rw[d5 (by rw[h2];decide)];show fe (398 hct);show fe (398 j);show me (by exact al.lK) λh h=>?_;show fe (398 l);show 29e2;show 183 (JP (abX JN λr p hr=>?_));cases r with
 |dH e=>exact hr
 |Y fl=>
  cases fl with
  |bj Z=>
   show hT (JO _ _ hr) λm i o=>?_;show fe (ox m t λh=>?_);show me ap λh h=>?_;show 91 ?_;unfold Aw;show fe (iP m ft.jI.bY λh=>?_);show dg ?_;rw[ft.jI.cq];show 180 (aY (rh ?_));show zv (JM ft.jI.th abW abV (ft.jI.check _ _ _ _ _ _ _ _ m (by simpa-fs using i) (by simpa-fs using o))) λapp x k=>?_;cases app with
   |dH e=>exact k
   |Y d=>
    cases d with
    |bj r=>
     (show oA k λu z=>?_;try clear k;subst u);show 32e8;exact bG z
    |_=>exact k.ak
  |_=>exact hr.ak
namespace BA
def qs:Ax 26e7=b8 [26e7,6e9]:=by rw[mroOf_type];kernel_rfl
def abY:pm 26e7 "__new__" =b8 (G (.bI "bytearray.__new__")):=by rw[kD,kF];kernel_rfl
def called:TypeCalled "bytearray" "bytearray.__new__" "bytearray.__init__" :=
 ⟨by decide+cm,by decide+cm,⟨_,_,qs⟩,madeBy_type qs abY 9e2,by decide+cm,by rw[k9];kernel_rfl,abA⟩
def typeCall(a:af):abU "bytearray" (61 [a])=b8 ():=ar
def abZ(a:af):w6 "bytearray.__new__" (61 [26e7,a])=b8 ():=ar
def ab0:mV lJ "bytearray.__new__" =G Builtin.«list.__new__»:=ab1 (id':= "list.__new__") ar H 9e2 ar
def PC:plainId "bytearray.__new__" =true:=by decide+cm
def jj:lL 26e7 26e7=b8 true:=by rw[k9];kernel_rfl
universe e BA
set_option maxRecDepth 1000000 in
set_option maxHeartbeats 4000000 in
theorem BA.ab2:("bytearray.__new__".splitOn ".__new__").headD "" = "bytearray" :=by simp+bJ [fS.splitOn,fS.splitOnAux]
def ab3(a:af){Q₁:0e5}(h:Q₁ 9e9 (281 (fi []))):
  uV 6e2 A (.aW (.bI "bytearray.__new__") (61 [26e7,a])) (uW Q₁ E) s:=by
 show ab4 ?_;refine aX _ A.fg (do w6 "bytearray.__new__" (61 [26e7,a]);mg (.bI "bytearray.__new__" (61 [26e7,a]))) _ _ s;show bf (gt (BA.abZ a) (bW ⟨Av BA.PC _,codeAny_builtin_stack BA.ab0 H λp F=>?_⟩));rw[df.Py BA.PC _];have b:=BA.jj;have x:=BA.ab2;obtain(⟨e,g,d,tk,os⟩):=s;simp only[x];wp_walk;exact h
universe e
section
variable{bb:gR}{w:eA}{A:df}{E:af->ae->Prop}{s:ae}
def BA.cq(v:af):dK.bindOptional "bytearray.__init__" "bytearray" ["source", "encoding", "errors"] [v] []=b8 [2e5,L,L]:=ar
def BA.ab5:343 "__release_buffer__" "bytearray.__release_buffer__" :=
 348 "__release_buffer__" kF
  (by first|exact .a2 (by decide+cm)|exact .aD (by decide+cm)) (30e9)
def io.ti:ov "bytes" "__buffer__" "bytes.__buffer__" :=
 .of (k8:= "bytes") (n:= "__buffer__") (by rw[kD,kF];kernel_rfl) 9e2 9e2 9e2
  (by first|exact .a2 (by decide+cm)|exact .aD (by decide+cm)) (30e9)
def io.ab6:pm 27e0 "__release_buffer__" =b8 L:=by rw[kD,kF];kernel_rfl
def io.PD:pm 27e0 "__index__" =b8 L:=by rw[kD,kF];kernel_rfl
def io.ab7:pm 27e0 "__int__" =b8 L:=by rw[kD,kF];kernel_rfl
def io.ab8:pm 27e0 "__float__" =b8 L:=by rw[kD,kF];kernel_rfl
def io.ab9:lL 27e0 26e7=42e3:=by rw[k9];kernel_rfl
def io.aca:lL 27e0 (.aA "complex")=42e3:=by rw[k9];kernel_rfl
def io.jj:lL 27e0 27e0=b8 true:=by rw[k9];kernel_rfl
def acb:(56e8).endsWith ("." ++ "__release_buffer__")=true:=by decide+cm
def PE:("bytes.__buffer__" :fS).endsWith ("." ++ "__buffer__")=true:=by decide+cm
def drop1:(56e8).dropRight (("__release_buffer__" :fS).U+1)= "bytearray" :=by decide+cm
def PF:("bytes.__buffer__" :fS).dropRight (("__buffer__" :fS).U+1)= "bytes" :=by decide+cm
def acc{Q:29e1}(e:4e4=15e1)(h:Q false s):41 (dK.JQ 2e2):=by
 have x:47e7 :=(51 e);unfold dK.JQ dK.JR;show 167 (iP x BA.ab5.bY ?_);try dsimp only
 rw[acb,drop1,d5 ap];exact ox x BA.jj 22e3
def acd{Q:29e1}(h:Q false s):41 (dK.JQ (.iQ b tk)):=by
 unfold dK.JQ dK.JR;exact 167 (iP (pn s b tk) io.ab6 (bW 22e3))
def PG{b:bO bd}{tk:Tok}{id:fS}{full:al}{Q:aq (bO bd)->ae->Prop}(h:Q (G b) s):41 (dK.buffer? id (.iQ b tk) full):=by
 have e:=pn s b tk;unfold dK.buffer?;show cK (iP e io.ti.bY λx=>?_);unfold dK.JR;show 167 (iP e io.ti.bY ?_);try dsimp only
 rw[PE,PF,d5 ap];show ox e io.jj ?_;show sP ap λx x=>?_;show cK (iP e io.ti.bY λx=>?_);show cK (acd λx=>?_);show sP ap λx x=>?_;exact bf (gt (a:=b) H 22e3)
def PH(n:I):dK.tooLong n=bJ (n>JU):=H
def ace{a:aH}{v:af}{R:137 ky}{b:4e9}(p:A.j5=G [])(r:4e4=282 [])
  (hv:(∃n tk,v= .y n tk/\0<=n/\n<=16777216/\b=287 0)\/(∃tk,v= .iQ 20e6 tk/\b.U<=16777216))
  (h:∀h',18e4=15e1->166 a h'->R (.kx (.bj .L)) 36e1):
  133 A (Builtin.«bytearray.__init__» (61 [2e2,v])) R E s:=by
 unfold Builtin.«bytearray.__init__»;show fe (acc r λx=>?_);show me ap λx x=>?_;show fe (gt (BA.cq _) λx=>?_);show fe (322 ());show fe (322 ());show aY (m:=(dK.w4 2e2 <||> (do return(<-dK.JJ 2e2)>0))) (aY (Pv p ?_));show eP (Pw r 32e8);show me ap λx x=>?_;show fe (w5 (b:=[]) r (by simp) λh1 e1 s1 x=>?_);have e1:h1.ao a=282 []:=e1;rcases hv with⟨n,tk,H,h0,hz,H⟩|⟨tk,H,hz⟩
 ·show fe (322 L);show uE ap <|?_;show fe (322 ());show fe (iP (s:=47e9) (Ay _ n tk) apu.PJ.bY λx=>?_);show thR cH <|?_;show fe (tj (322 n));show me (by simp only[dK.fitsIndex,al.w7,al.acf,al.lb,mW];lia) λx x=>uE (by exact K.Az h0) <| me (by simp only[AA];lia) λx x=>me (by simp only[PH,mW,f0];lia) λx x=>?_;show fe (ny λx=>?_);split
  ·show fe (w5 (s:=47e9) e1 (by simp;exact K.le_def.bl hz) λh2 e2 e x=>?_);exact bG (h h2 (by simpa using e2) (s1.aU e))
  ·have:n.aI=0:=bM;exact bG (h h1 (by rw[a9];exact e1) s1)
 ·show fe (322 L);show uE ap <|?_;show fe (322 ());show fe (iP (s:=47e9) (pn _ _ _) io.PD λx=>?_);show me ap λx x=>?_;show fe (PG λx=>?_);show fe (ny λx=>?_);show fe (w5 (s:=47e9) e1 (by simpa using hz) λh2 e2 e x=>?_);exact bG (h h2 (by simpa using e2) (s1.aU e))
def PK{Q:0e5}(p:A.j5=G [])
  (hv:(∃n tk,v= .y n tk/\0<=n/\n<=16777216/\b=287 0)\/(∃tk,v= .iQ 20e6 tk/\b.U<=16777216))
  (h:∀h',47e3=15e1->(∀c o,37e1=0e4->h'.ao c=0e4)->h'.O.an=s.M.O.an+1->157 9e9):
  133 A (aW 26e7 [v]) Q E s:=by
 show abT BA.called (BA.typeCall v) BA.abE 9e2 (ab3 v (Q₁:=λZ x=>Z= 9e9/\x=(281 (fi []))) 15e2) ?_;rintro Z x ⟨H,H⟩;have e0:(s.M.b5 (fi [])).ao s.M.O.an=282 []:=10e0;show⟨(51 e0),BA.abK _ _,ace (A:=A.fg.fg) p e0 hv λh' r s'=>?_⟩;show⟨H,h h' r (λc o e=>?_) (by rw[s'.1,ai.iM])⟩;have a:=9e1;exact(s'.2 c (I.ip a)).aU 33e3
universe e
namespace BA
def PL:JA.owners.bY (fS.ofList ['r','o','t','a','r','e','t','i','_','y','a','r','r','a','e','t','y','b'].er)=G JA.sig_bytearray_iterator:=ar
def uX:ov "bytearray_iterator" "__next__" "bytearray_iterator.__next__" :=
 .of (k8:= "bytearray_iterator") (n:= "__next__") (by rw[kD,kF];kernel_rfl) 9e2 9e2 9e2
  (by first|exact .a2 (by decide+cm)|exact .aD (by decide+cm)) (30e9)
def PM:mV lJ "bytearray_iterator.__next__" =G Builtin.«bytearray_iterator.__next__»:=uQ ar
def PN(a:af):kG "bytearray_iterator.__next__" (61 [a]):=by
 unfold kG;rw[314 "bytearray_iterator.__next__" ['_','_','t','x','e','n','_','_'] ['r','o','t','a','r','e','t','i','_','y','a','r','r','a','e','t','y','b'] PL];kernel_rfl
universe e BA
def nz(h:ai)(it a:aH)(i:I):Prop:=∃o,h.ao it=0e4/\o.bi= 41e3 /\o.be= .cn #[2e2,3 i]
def nz.mX{s:ae}{it a:aH}{i:I}(x:nz s.M it a i):s.kH 33e0 "bytearray_iterator" :=(by(show dU x λo h e b=>?_;try clear x);exact⟨o,h,e⟩)
section
variable{bb:gR}{w:eA}{A:df}{E:af->ae->Prop}{s:ae}
def PQ{Q:0e5}(x:4e4=15e1)
  (hQ:Q 9e9 {s with M:=209 41e3 (.cn #[2e2,1e4])}):41 (qt 2e2):=by
 have h:47e7 :=(51 x);show PR h BA.Po (nw BA.Po h BA.abD ?_ (BA.abJ _));refine aX _ _ (do bj (<-newFields "bytearray_iterator" [2e2,iC 0])) _ _ s;exact bf (qr (bW ⟨_,H, "bytearray_iterator",_,⟨_,10e0,H⟩,BA.uX.bY,hQ⟩))
def PS{it a:aH}{i:I}{b:4e9}{c:bd}{Q:12e4->ae->Prop}(et:nz s.M it a i)(r:4e4=15e1)(p:b[i]? =G c)
  (hQ:∀h',nz h' it a (i+1)->166 it h'->Q (G (.y c.aI s.a0)) (350 h' s.a0 1)):41 (Aw 33e0 "__next__"):=by
 show dU (id et) λo h k hd=>?_;show 389 et.mX BA.uX
  (nw BA.uX et.mX BA.PM ?_ (BA.PN _))
 refine aX _ _ (ro 33e0 0>>=_) _ _ s;show bf (hG h hd (x:= 2e2) H ?_);show bf (rm r ?_);dsimp-fs only;show bf (hG h hd (x:= 3 i) H ?_);dsimp only;have e:(bO.mk b)[(i:K).aI]? =G c:=by rw[K.tl];simpa-fs using p
 rw[e];dsimp only;show bf (uY h hd (by exact I.one_lt_succ_succ [].U) ?_);show bf (wpAny_mkInt (bW ⟨_,H,hQ _ ?_ (ai.fy.eM ..)⟩));exact⟨_,258 h (az.isFreed_of_fields (az.acg hd _)),(az.cls_mapFields ..).aU k,by
  rw[az.acg hd];simp-fs [iC]⟩
def ach{Q:0e5}(et:nz s.M it a i)(h:4e4=15e1)(x:b[i]? =G c)
  (hQ:∀h',nz h' it a (i+1)->166 it h'->Q (.y c.aI s.a0) (350 h' s.a0 1)):41 (po.tm 33e0):=by
 unfold po.tm;exact bf (PS et h x λh' a b=>bW (hQ h' a b))
def PU{it a:aH}{i:I}{b:4e9}{Q:12e4->ae->Prop}(r:A.e8=L)(et:nz s.M it a i)(p:4e4=15e1)(k:b[i]? =L)
  (hE:∀h' e,ai.uZ it s.M h'->(∃o,42e8=0e4/\o.bi= 44e4)->E 9e7 36e1):41 (Aw 33e0 "__next__"):=by
 show dU (id et) λo h n hd=>?_;show(389 et.mX BA.uX
  (nw BA.uX et.mX BA.PM ?_ (BA.PN _)))
 refine aX _ _ (ro 33e0 0>>=_) _ _ s;show bf (hG h hd (x:= 2e2) H ?_);show bf (rm p ?_);dsimp-fs only;show bf (hG h hd (x:= 3 i) H ?_);dsimp only;have e:(bO.mk b)[(i:K).aI]? =L:=by rw[K.tl];simpa-fs using k
 rw[e];dsimp only;show bf (ny (bf (uY h hd (by exact aci H) (bf (PV ?_)))));refine aX _ _ (JV 44e4 []>>=_) _ _ _;show 23e7;dsimp-fs only[JV,newTuple];show bf 51e1;show bf (m:=JY _ _) (gt (a:=af.L) (by first|rfl|(dsimp-fs only[JY];rfl)) ?_);show 51e1;dsimp-fs only[JZ];show bf (PW ?_);first|rw[show A.fg.e8=L from r]|rw[r]
 show bf (bW (wpAny_throw ?_));exact hE _ _ (((ai.fy.eM ..).mq.b5 _).b5 _) ⟨_,10e0,H⟩
def PY{Q:0e5}(h:A.e8=L)(et:nz s.M it a i)(x:4e4=15e1)(r:b[i]? =L)
  (hE:∀h' e,ai.uZ it s.M h'->(∃o,42e8=0e4/\o.bi= 44e4)->E 9e7 36e1):41 (po.tm 33e0):=by
 unfold po.tm;exact bf (PU h et x r hE)
universe e
def PZ(u:A.e8=L)(it a:aH)(n:a≠it)(b:D bd):
  Draws bb w A it [it,a] b.U (λi v=>∃c t,b[i]? =G c/\v= .y c.aI t) (λi h=>nz h it a i/\h.ao a=G (fi b))where
 j6:=λx x F=>(by show aM F.1 λo e x=>?_;exact⟨o,e⟩)
 eb:=λx x x F k=>⟨(by show aM F.1 λo e r=>?_;exact⟨o,k it (by exact D.dP) o e,r⟩),k a (by simp-fs) _ F.2⟩
 item:=λi s Q E p F q=>by
  show ach F.1 F.2 (c:=b[i]) (by simp-fs [p]) λh' j m=>?_;exact q _ h' _ ⟨b[i],_,by simp-fs [p],H⟩ ⟨j,(m.2 a n).aU F.2⟩ m
 done:=λs Q E F l=>PY u F.1 F.2 (by simp-fs) l
def ctt{α:Type}{f:al->9e5}{Q E s}(h:∀b,67 (f b)):67 (po.calledThroughType bi>>=f):=
 167 (wpAny_stack_any λx=>bW (h _))
def acj(l:aH)(b:4e9):
  Meets (Builtin.«enumerate.__new__» (61 [47e1,.N l])) (λp R s=>s.M.ao l=15e1/\
   R (.Y (.bj (.N (209 41e3 (.cn #[.N l,1e4])).O.an)))
    {s with M:=(209 41e3 (.cn #[.N l,1e4])).b5 (336 47e1 #[.L,33e8,9e9,iC 0,.L,.L])}):=
 .of_wp λbb w A R s h=>by
  obtain(⟨e,g,d,tk,os⟩):=s;show oA h λx h=>?_;have r:=sub_enumerate;have hL:(ae.M ⟨e,g,d,tk,os⟩).ao l=15e1:=x;wp_walk using ctt,AutoSeq1.wpAny_loadPart' x;intro a;cases a<;>(wp_walk using AutoSeq1.wpAny_loadPart' x,PQ hL)<;>exact⟨_,H,h⟩
section
variable{bb:gR}{w:eA}{A:df}{E:af->ae->Prop}{s:ae}
def ack{Q:0e5}(a:s.M.ao l=15e1)
  (h:∀h',u3 h' (179 1) s.M.O.an 0 .L->nz h' s.M.O.an l 0->h'.O.an=s.M.O.an+2->
   (∀b o,8e8=0e4->11e8=0e4)->157 24e0):
  41 (aW 47e1 [.N l]):=by
 show acl apu.called_enumerate ap (apu.typeCall_enumerate_1 _) (apu.newCall_enumerate_1 _) (λZ=>apu.acm Z _) apu.entry_enumerate_new
  (acj l b) ⟨a,?_⟩
 have hz:(209 41e3 (.cn #[.N l,1e4])).O.an=s.M.O.an+1:=ai.iM ..;refine _/\_;rw[hz];have e:u3 ((209 41e3 (.cn #[.N l,1e4])).b5
   (336 47e1 #[.L,33e8,9e9,iC 0,.L,.L])) (179 1) s.M.O.an 0 .L:=by
  have:=ai.fF (209 41e3 (.cn #[.N l,1e4]))
   (o:=(336 47e1 #[.L,33e8,9e9,iC 0,.L,.L])) H
  rw[hz]at a9;exact a9
 show⟨(51 e),h _ e ⟨_,86 10e0,H,H⟩ (by rw[ai.iM,hz]) λb o x=>340 x⟩
universe e
universe e
section
open PySem PySem.W PyProof.Rows PySem.Calls
set_option backward.match.sparseCases false
section
variable{bb:gR}{w:eA}{A:df}{E:af->ae->Prop}{s:ae}{R:md->ae->Prop}
def acn{α:Type}{apB:iz}{ab:ez}{m:9e5}{aT:dz}{Q:14e6}(h:107 m Q (j4 apB A ab E) s):
  29 (m.qh λx=>do mR x ab;kw aT):=
 ww (eW h (λa a q=>q) λa a b=>aL.of (bf (hV b (λa a e=>pq e) λa a e=>e)))
def aco{pr iR lM j7 br aT it cO ab}
  (h0:96 A (.qu (132 pr iR lM j7 br) 0 it cO ab) R s)
  (h:aX 6e2 A (qt it) (λe s'=>96 A (.qu (132 pr iR lM j7 br) 0 e cO ab) R s')
   (j4 6e2 A ab λx s'=>R (.dH x) s') s):
  96 A (.w9 (132 pr iR lM j7 br) 0 it cO ab) R s:=by
 show mf H ?_;refine aL _ _ ((w9 (132 pr iR lM j7 br) 0 it cO ab).qh (λx=>do mR x ab;kw theWindowsPlace)) _ _ s;show acn ?_;unfold w9;refine aL _ _ (ask>>=_) _ _ s;show eP (acp ?_);split
 ·first
   |exact aY (bG (bG (i3.nq H h0)))
   |exact bG (i3.nq H h0)
 ·show eP (ny ?_);refine aL _ _ (kw lM.aT>>=_) _ _ s;exact eP (pq (147 h (λe s' h'=>bG (i3.nq H h')) (λa a x=>x)))
def P0
  (turn:aX (bg bb w) A (oy it) (λr a=>match r with
   |L=>218 .bz a
   |G v=>272 w A (AB iR it v) (λh a=>133 A (rF iR ab v) (λh q=>
     aL (6e2) A (forIn j7 true λc r=>if r=true then do let Y<-sT c ab (77 c);b8 (xa.uF Y)else b8 (xa.uF r)) (λY p=>
      if Y=true then 133 A (77 pr) (λx n=>
       aL (6e2) A (410 [cO,x]) (λh m=>96 A (.qu (132 pr iR lM j7 br) 0 it cO ab) R m) (j4 6e2 A ab 14e7) n) (j4 6e2 A ab 14e7) p
      else 96 A (.qu (132 pr iR lM j7 br) 0 it cO ab) R p) (j4 6e2 A ab 14e7) q) (j4 6e2 A ab 14e7) a) (j4 6e2 A ab 14e7) a) (j4 6e2 A ab 14e7) s):
  96 A (.qu (132 pr iR lM j7 br) 0 it cO ab) R s:=by
 show mf H ?_;refine aL _ A (408 (compTurn (132 pr iR lM j7 br) 0 it cO ab)) _ _ s;show zw ?_;rw[compTurn_list];show eP (pq (147 turn (λr a b=>?_) 47e4));cases r with
 |L=>exact bG b
 |G v=>
  show 147 b (λh a b=>?_) 47e4;show aY (eW b (λh q u=>aY (eW u (λY p k=>?_) 47e4)) 47e4);cases Y with
  |false=>exact bG (238 k)
  |true=>
   exact aY (aY (eW k (λx n i=>aY (eW i (λh m j=>bG (bG (238 j))) 47e4)) 47e4))
def acq{Q:0e5}
  (gJ:clausesOf e=g::gs) (hs:∀x,u6 g.lM ab x=b8 x) (J0:AC br ab=b8 cl)
  (J1:br.d8= .jJ) (xb:∀x∈br.bp,x.2= .cU->br.bp.bY x.1=12e3)
  (h:107 u7 (λx p=>aX apB A (qt x) (λit n=>aX apB A J2 (λcO k=>
   aX apB A (zE br ab.g8 cl [] ab.pt L .L (G ab)) (λjK b=>
    e7 apB A (.w9 e 0 it cO (318 br ab)) (λr s'=>match r with
     | .Y _=>∃m,s'.M.Ns jK.cX m/\∀h',ai.fy jK.cX s'.M h'->Q cO {s' with M:=h'}
     | .dH x=>fR) b) E k) E n) E p) E s):
  29 (J3 e br ab aT J2 false u7 L):=by
 unfold J3;rw[J0,gJ];show aY (eW h (λx p j=>eP (pq (eP (gt (hs x) (eP (nA (hV j (λit n v=>?_) 26e8))))))) 26e8);rw[d5 ap];show 147 v (λcO k u=>180 (147 u (λjK b q=>?_) 26e8)) 26e8;dsimp only;have c:∀x∈(br.bp.oo λx=>(x.2== .cU||x.2== .dk)&&x.1 !=(".0" :am)).er,x.2= .cU->
   ez.dA (318 br ab) x.1=12e3:=λx l i=>acr (xb x (D.rA.mp (D.AD.mp l)).1 i)
 show dg (aY (wx (dg (DC ?_ (by intro x;cases x)))));rw[wy];show zv q λr s' hr=>?_;cases r with
 |Y f=>
  show aM hr λm w hr=>?_;exact eP (nA (acs (jK:=(318 br ab)) J1 _ s' m c w λh' m' a o=>bG (hr h' o)))
 |dH x=>exact hr.ak
universe e
universe e
section
open PySem PySem.W PyProof.Rows PySem.Spec PySem.SeqAt
open Builtin hiding id
set_option backward.match.sparseCases false
namespace BA
def P1:ov "bytearray_iterator" "__iter__" "bytearray_iterator.__iter__" :=
 .of (k8:= "bytearray_iterator") (n:= "__iter__") (by rw[kD,kF];kernel_rfl) 9e2 9e2 9e2
  (by first|exact .a2 (by decide+cm)|exact .aD (by decide+cm)) (30e9)
def entry_self:mV lJ "bytearray_iterator.__iter__" =G Builtin.«dict_keyiterator.__iter__»:=ab1 (id':= "dict_keyiterator.__iter__") ar H 9e2 ar
def args_self(a:af):kG "bytearray_iterator.__iter__" (61 [a]):=by
 unfold kG;rw[314 "bytearray_iterator.__iter__" ['_','_','r','e','t','i','_','_'] ['r','o','t','a','r','e','t','i','_','y','a','r','r','a','e','t','y','b'] PL];kernel_rfl
universe e BA
section
variable{bb:gR}{w:eA}{A:df}{E:af->ae->Prop}{s:ae}
def act(j:A.e8=L)(apy a:aH)(k:a≠apy)(b:D bd):
  J4 bb w A apy [apy,a] [apy] b.U (λi v=>∃c t,b[i]? =G c/\v= .y c.aI t) (λi h=>nz h apy a i/\h.ao a=G (fi b))where
 a1:=λb n=>by simp at n;simp[n]
 eb:=(PZ (bb:=bb) (w:=w) j apy a k b).eb
 item:=λi s Q E m F x=>by
  unfold oy;show bf (tj (PS F.1 F.2 (c:=b[i]) (by simp[m]) λh' d l=>bW (x _ h' _ ⟨b[i],_,by simp[m],H⟩ ⟨d,(l.2 a k).aU F.2⟩ λc o r e=>l.mq c o (λq=>r (by exact D.cY.bl q)) e)))
 done:=λs Q E F x=>by
  unfold oy;show cK (tj (PU j F.1 F.2 (by simp) λh' e f u app=>?_));(show aM u λo z r=>?_;try clear u);show cK (ox (apq:= "StopIteration") (b:=true) ⟨o,z,r⟩ P2 λapp=>?_);exact bW (x h' s.a0 λc o r e=>f c o (λq=>r (by exact D.cY.bl q)) e)
 oz:=λi s Q E F x=>by
  have p:=F.1.mX;show PR p BA.P1 (nw BA.P1 p BA.entry_self ?_ (BA.args_self _));refine aX _ _ (bj (.N apy)) _ _ s;exact bW ⟨_,H, "bytearray_iterator",_,p,BA.uX.bY,x⟩
def acu{a:aH}{Q:29e1}(r:47e7)(h:Q false s):41 (Builtin.D.AE 2e2):=by
 unfold Builtin.D.AE;show cK (iP r BA.JG.bY λx=>?_);generalize p:("bytearray.__len__" :fS)=J5;wp_delta;rw[show splitId J5=G ("bytearray", "__len__")from by subst p;decide+cm];subst p;show cK (ox (apq:= "bytearray") (b:=true) r 30e9 λx=>?_);show AF (λe=>bL e ap) (λx=>?_);show AF (λx=>?_) (λe=>bL 9e2 e);show cK (tf r λx=>?_);exact 22e3
def acv{b:bO bd}{t:Tok}{Q:29e1}(h:Q false s):41 (Builtin.D.AE (.iQ b t)):=by
 have a:=pn s b t;unfold Builtin.D.AE;show cK (iP a FB.slot_bytes_len.bY λx=>?_);generalize r:("bytes.__len__" :fS)=J5;wp_delta;rw[show splitId J5=G ("bytes", "__len__")from by subst r;decide+cm];subst r;show cK (ox (apq:= "bytes") (b:=true) a 30e9 λx=>?_);show AF (λe=>bL e ap) (λx=>?_);show AF (λx=>?_) (λe=>bL 9e2 e);show cK (tf a λx=>?_);exact 22e3
def P5{R:43e9}{apq:fS}{r res:af}{S:aH}{u n:I}{fp:11e9}{P:I->af->Prop}{St:I->ai->Prop}{oI:az}(l:s.kH r apq)(nl:(af.aA apq==51e4)=false)(z:(af.aA apq==af.aA "tuple")=false)
  (acw:Builtin.D.P6 (.N S) r=false) (hint:∀(E:0e5) (Q:29e1),Q false (281 oI)->272 w A.fg (Builtin.D.AE r) Q E (281 oI))
  (lM:∀(E:0e5) (Q:0e5),Q 9e9 (281 oI)->aX (bg bb w) A.fg (qt r) Q E s)
  (W:J4 bb w A.fg s.M.O.an fp 39e8 n P St) (fm:St 0 (s.M.b5 oI)) (P7:S∉fp) (hS:s.M.ao S=G (327 #[] u))
  (apY:∀h' tk m p,(∀b o,b≠S->8e8=0e4->11e8=0e4)->h'.ao S=G {bi:= 19e6,bv:=L,be:= .cG m p,nB:= #[]}->xd P m n->332 res (85 h' tk)) (hn:n<=JU):
  aX 6e2 A.fg (Builtin.D.u8 (.N S) r res)
   (λef s'=>match ef with| .kx f=>218 f s'| .mg p=>p.sR=true/\uV 6e2 A p R s') (14e7) s:=by
 have g:S≠s.M.O.an:=285 hS;unfold Builtin.D.u8;show cK (tf l λa=>?_);simp only[acw,nl,z,al.mo,al.zH,zI];show bf (lM _ _ (bf (nA (hint _ _ ?_))));have k:=ai.em oI hS;have cQ:∀(h:ai) (v tk:I),St 0 h->(∀b o,b≠S->8e8=0e4->h.ao b=0e4)->
   h.ao S=G (327 #[] v)->uV 6e2 A (.bI "list.extend.loop" (61 [.N S,9e9,res])) R (85 h tk):=by
  intro h v tk fm c k;show codeAny_extend_loopS W.toS hn S P7 res n 0 _ #[] v H 32e0 fm k (xd.aQ _) λs' m p hm app d=>?_;rw[Moved.eq_with hm];show apY s'.M s'.a0 m p (λb o x e=>hm.M b o (λq=>?_) (c b o x e)) app d;rcases D.eR.mp q with q|q
  ·exact x q
  ·exact bL 9e1 (419 52e8)
 show AF (λa=>?_) (λa=>bW ⟨Av PySem.apu.acx _,cQ _ u _ fm (λb o a e=>33e3) k⟩);show cK (ny λa=>?_);show 23e7;refine aX _ _ (P8 S (·.b5 .L)>>=λa=>P8 S (·.pop)) _ _ _;show cK (AG k H λa=>?_);have i:=ai.kz (az.pv (·.b5 af.L)) k H;show AG (hz:=by seq_fits) i H ?_;have t:=ai.kz (az.pv (·.pop)) i H;show bW ⟨Av PySem.apu.acx _,cQ _ _ _ (W.eb 0 _ _ fm λb x o e=>?_) (λb o x e=>?_) t⟩
 ·have j:b≠S:=λh=>P7 (h▸x);exact(ai.AH _ _ (Ne.bh j)).aU ((ai.AH _ _ (Ne.bh j)).aU e)
 ·exact(ai.AH _ _ (Ne.bh x)).aU ((ai.AH _ _ (Ne.bh x)).aU 33e3)
def P9{apq:fS}{r:af}{n:I}{P:I->af->Prop}{Q:0e5}
  (cQ:∀(s1:ae) (R:43e9) (q:I),(∀b o,8e8=0e4->s1.M.ao b=0e4)->s1.M.ao s.M.O.an=G (327 #[] q)->
   (∀h' tk x h,(∀b o,b≠s.M.O.an->s1.M.ao b=0e4->11e8=0e4)->47e3=G {bi:= 19e6,bv:=L,be:= .cG x h,nB:= #[]}->xd P x n->332 .L (375 h' tk))->
   272 w A.fg.fg (Builtin.D.u8 9e9 r .L) (λef s'=>match ef with| .kx f=>218 f s'| .mg h=>h.sR=true/\uV 6e2 A.fg h R s') 14e7 s1)
  (hQ:∀h' tk x h,(∀b o,8e8=0e4->11e8=0e4)->47e3=G {bi:= 19e6,bv:=L,be:= .cG x h,nB:= #[]}->xd P x n->156 9e9 tk):
  41 (aW 19e6 [r]):=by
 show acy (Q₁:=λZ m=>Z= 9e9/\m={s with M:=209 19e6 (.cG #[])}) PySem.apu.called_list (PySem.apu.typeCall_list_1 _) PySem.apu.entry_list_init
  (code_list_new _ 15e2) λZ m k=>?_
 (show oA k λu d=>?_;try clear k;subst u;subst d);have p:(209 19e6 (.cG #[])).ao s.M.O.an=G (308 #[]):=10e0;show⟨(51 p),PySem.apu.args_list_init_2 _ _,?_⟩;refine aX _ _ (do let hY<-Builtin.D.Qa 9e9;Builtin.D.listUpdate (9e9) (λa=> #[]);letGo hY.f3.er;Builtin.D.u8 (9e9) r .L) _ _ _;show 23e7;unfold Builtin.D.Qa;show bf (AI p H 20e3);refine aX _ _ (P8 s.M.O.an (λa=> #[])>>=λa=>letGo (#[]:16e5).f3.er>>=λa=>Builtin.D.u8 9e9 r .L) _ _ _;show cK (AG p H λa=>?_);have c:=ai.kz (az.pv (λa=>(#[]:16e5))) p H;have v:∀b o,8e8=0e4->((209 19e6 (.cG #[])).eM s.M.O.an (az.pv (λa=>(#[]:16e5)))).ao b=0e4:=
  λb o e=>(ai.AH _ _ (I.u9 9e1)).aU 33e3
 show bf (PV (cQ _ _ _ v c λh' tk x h i l j=>?_));exact⟨H,hQ h' tk x h (λb o e=>i b o 45e3 (v b o e)) l j⟩
def list_bytes{b:bO bd}{t:Tok}{Q:0e5}(m:A.e8=L)(r:106 b.an)
  (hQ:∀h' tk e n,(∀b o,8e8=0e4->11e8=0e4)->47e3=G {bi:= 19e6,bv:=L,be:= .cG e n,nB:= #[]}->xd (λi v=>∃c u,b[i]? =G c/\v= .y (c.aI:K) u) e b.an->156 9e9 tk):
  41 (aW 19e6 [.iQ b t]):=
 P9 (apq:= "bytes") (λs1 R q k a p=>P5 (apq:= "bytes") (fp:=[s1.M.O.an]) (oI:=(329 "bytes_iterator" #[.iQ b t,1e4])) (pn s1 b t) ap ap H (λx x h=>acv h) (λx x h=>KBw.pyIter_bytes h) (KBw.walks (A:=A.fg.fg) m _ b t) (by exact⟨_,10e0,H,H⟩)
  (by simp only[D.cY];exact 285 a) a p (by rw[f0];exact r)) hQ
def acz{a:aH}{b:4e9}{Q:0e5}(l:A.e8=L)(m:4e4=15e1)(q:106 b.U)
  (hQ:∀h' tk p d,(∀b o,8e8=0e4->11e8=0e4)->47e3=G {bi:= 19e6,bv:=L,be:= .cG p d,nB:= #[]}->xd (λi v=>∃c t,b[i]? =G c/\v= .y c.aI t) p b.U->156 9e9 tk):
  41 (aW 19e6 [2e2]):=by
 have r:a≠s.M.O.an:=285 m;show P9 (apq:= "bytearray") (λs1 R f k n j=>?_) hQ;have x:=k a _ m;have u:s1.kH 2e2 "bytearray" :=(51 x);show P5 (apq:= "bytearray") (fp:=[s1.M.O.an,a]) (oI:=(336 41e3 #[2e2,1e4])) u ap ap (by simp[Builtin.D.P6];exact Ne.bh r) (λe e h=>acu ⟨_,86 x,H⟩ h) (λe e h=>PQ x h)
  (act (A:=A.fg.fg) l _ a (285 x) b) (by exact⟨⟨_,10e0,H,H⟩,86 x⟩) ?_ n j (by rw[f0];exact q)
 simp only[D.eR,D.mn,mo,Qb];exact⟨285 n,Ne.bh r⟩
universe e
universe e
section
open PySem PySem.W PyProof.Rows PySem.Spec PySem.SeqAt PySem.Calls
open Builtin hiding id
set_option backward.match.sparseCases false
section
variable{bb:gR}{w:eA}{A:df}{E:af->ae->Prop}{s:ae}
def acA(h:tp vs ns):∀{i:I} {v:af},vs[i]? =2e5->∃t,v= .y ((ns[i]?).ge 0) t:=by
 induction h with
 |aQ=>exact λe=>by simp at e
 |aP n t h s=>
  intro i v e;cases i with
  |i4=>cases e;exact⟨t,H⟩
  |hH i=>exact s (i:=i) e
def acB(ns:D K)(k:I):Qc (λi=>(ns[i]?).ge 0) k=(ns.fG k).lc:=by
 induction k with
 |i4=>exact preSum_getD ns 0
 |hH k s=>
  rw[Qc,s,D.take_add_one,D.sum_append];cases ns[k]? <;>simp
def sum_list{Q:0e5}(n:A.e8=L)(h:151 a aO)(p:tp aO ns)
  (hQ:∀h' tk t',(∀b o,8e8=0e4->11e8=0e4)->156 (.y ns.lc t') tk):41 (260 "sum" [2e2]):=by
 have r:a<s.M.O.an:=by(show aM h λo e u=>?_;try clear h);exact 9e1
 show call_sum_walkAnyS (AJ h ?_);show⟨s.M.O.an,_,_,_,_,_,_,λi=>(ns[i]?).ge 0,H,(J4.ay (A:=A.fg) n s.M.O.an a (I.ip r) 32e6).toS,⟨⟨_,10e0,H,H⟩,h.at λo e=>33e3⟩,λb x=>?_,λi v q=>acA p (by simpa using q),λs' t' hm=>?_⟩
 ·refine b<(s.M.b5 _).O.an;rw[ai.iM];rcases D.eR.mp x with e|x
  ·rw[e];exact 40e6
  ·rw[D.cY.mp x];exact I.Qd r
 ·have e:Qc (λi=>(ns[i]?).ge 0) (188 aO)=ns.lc:=by
   rw[acB];have:(188 aO)=ns.U:=p.U;rw[a9,D.take_length]
  rw[e,Moved.eq_with hm];exact hQ s'.M s'.a0 t' λb o k=>hm.M b o (λm=>bL (ai.cP k) (419 (D.cY.mp m))) (86 k)
def acC{bK:D (K×af)}:∀{vs:2e4},vs.U=bK.U->(∀(i:I) v,vs[i]? =2e5->∃k x,bK[i]? =G (k,x)/\(oC bb w).is k v=true)->tp vs (bK.aj (·.1)):=by
 induction bK with
 |aQ=>intro vs s _;rw[D.J6.mp s];exact .aQ
 |aP p r ih=>
  intro vs s h;cases vs with
  |aQ=>cases s
  |aP v vs=>
   show gd (h 0 v H) λk x e b=>?_;cases e;(show oE (af.isInt_shape b) λt m=>?_;subst m);exact .aP _ _ (ih (I.hH.cE s) λi v a=>h (i+1) v a)
def acD{d:aH}{bK:D (K×af)}{ep:I}{Q:0e5}(t:A.e8=L)(p:s.M.nD (oC bb w) d bK ep)(lo:(d==tq)=false)(j:bK.U<64)
  (hQ:∀h' tk apr bH lf,(∀b o,8e8=0e4->11e8=0e4)->h'.j8 apr bH->s.M.ao apr=L->tp bH.f3 lf->lf.qv (bK.aj (·.1))->lf.tr (· <= ·)->156 (.N apr) tk):
  41 (260 "sorted" [.N d]):=by
 show call_function_entry kind_sorted plain_sorted entry_sorted (args_sorted1 _) ?_;unfold Builtin.«sorted»;show cK (m:=checkCount "sorted" 1 1 _) (bW λl=>?_);show cK (kdu_collect (A:=A.fg) (kdl_dict (gY:=oC bb w) (bK:=bK) (ep:=ep) lo) t p (by rw[f0];lia) λh' tk cO a r l=>?_);have h:cO.f3.U=bK.U:=by rw[bO.J7];exact r.1
 have f:tp cO.f3 (bK.aj (·.1)):=acC h λi v k=>r.2 i v (by rw[<-bO.Qe];exact k);show bf (J8 ?_ (by rw[h,f0];lia));have x:(h'.b5 (308 cO.f3.gF)).ao h'.O.an=G (seqObj "list" cO.f3.gF 0):=10e0;have n:s.M.ao h'.O.an=L:=by
  cases q:s.M.ao h'.O.an with
  |L=>rfl
  |G o=>exact 294 (ai.cP (a _ _ q))
 show bf (nA (nw slot_list_sort (51 x) entry_list_sort (list_sort_tree x f (by rw[h];exact j) λbH lf z app a3=>⟨_,H,?_⟩) (args_list_sort _)));show bW ⟨_,H,?_⟩;show oE (sortedHeap_at (bH:=bH) x) λe u=>?_;show hQ _ tk h'.O.an bH lf (λb o c=>?_) ⟨e,u⟩ n z app a3
 ·have h1:=a b o c;rw[sortedHeap_old (285 h1) (by rw[ai.iM];exact I.Qd (ai.cP h1))];exact 86 h1
universe e
set_option backward.match.sparseCases true
def io.acE:pm (.aA "int") "__bytes__" =b8 L:=by rw[kD,kF];kernel_rfl
section
variable{bb:gR}{w:eA}{A:df}{E:af->ae->Prop}{s:ae}
def acF{b:bO bd}{tk:Tok}{id:fS}{Q:aq (bO bd×12e4)->ae->Prop}(h:Q (G (b,L)) s):41 (dK.acG id (.iQ b tk) 0):=by
 have x:=pn s b tk;unfold dK.acG dK.takeBuffer?;show bf (tj ?_);show bf (iP x io.ti.bY ?_);unfold dK.JR;show 167 (iP x io.ti.bY ?_);try dsimp only
 rw[PE,PF,d5 ap];show ox x io.jj ?_;show 35e4 <|?_;show cK (iP x io.ti.bY λe=>?_);exact bf (PG (bW 22e3))
def acH{a:aH}{b m:4e9}{tk:Tok}{Q:0e5}(i:A.j5=G [])(p:4e4=15e1)(hz:b.U+m.U<=16777216)
  (h:∀h',18e4=282 (b++m)->166 a h'->157 .L):133 A (260 "bytearray.extend" [2e2,.iQ ⟨m⟩ tk]) Q E s:=by
 have n:47e7 :=(51 p);have q:=pn s ⟨m⟩ tk;show rh (JM BA.JH.th 9e2 BA.abF (BA.JH.check _ _ _ _ _ _ _ _ n (BA.abL _ _) ?_));unfold Builtin.«bytearray.extend»;show fe (322 (af.N a,af.iQ ⟨m⟩ tk));show fe (iP q io.ti.bY λx=>?_);show thR cH <|?_;show fe (ny λx=>?_);show fe (uS p λx=>?_);show fe (acF λx=>?_);show thR cH <|?_;have wr:aX (bg bb w) A.fg (do dK.uT (2e2) (· ++(bO.mk m));bj .L) (λef s'=>match ef with| .kx f=>(match(Except.Y f:md)with| .Y (.bj v)=>Q v s'| .Y _=>fR| .dH e=>E e s')| .mg k=>k.sR=true/\96 A k (414 v (E e s')) s') E s:=
  bf (w5 p (by simp;lia) λh' u s'=>bW (h h' (by simpa using u) s'))
 refine aL _ _ (do
  if !(bO.mk m).jL then dK.JK 2e2
  dK.uT (2e2) (· ++(bO.mk m))
  bj .L) _ _ _
 split
 ·exact aY (Px i p (aL.of wr))
 ·exact aL.of wr
def acI{Q:0e5}(h0:0<=n)(hz:106 n)(b:∀t k,Q (.iQ (bO.gi n.aI 0) t) 24e6):41 (aW 27e0 [.y n tk]):=by
 show acy (Q₁:=λZ x=>x.kH Z "bytes" /\Q Z x) PySem.apu.Qf (PySem.apu.bm_typeCall _) PySem.apu.entry_object_init ?_ λZ x e=>?_
 ·show ab4 ?_;refine aX _ A.fg.fg (do w6 "bytes.__new__" (61 [27e0,.y n tk]);mg (.bI "bytes.__new__" (61 [27e0,.y n tk]))) _ _ s;show bf (gt (PySem.apu.bm_newCall _) (bW ⟨Av PySem.apu.bm_plain _,codeAny_builtin PySem.apu.bm_entry ?_⟩));rw[df.Py PySem.apu.bm_plain _];unfold Builtin.«bytes.__new__»;show cK (369 true H);show 35e4 <|?_;show cK (398 PySem.apu.bm_sub);show 35e4 <|?_;show cK (398 (PySem.apu.bm_bind _));show cK (369 () H);show cK (369 () H);show 35e4 <|?_;show cK (iP (Ay _ n tk) io.acE λh=>?_);show cK (369 false H);show 35e4 <|?_;show cK (iP (Ay _ n tk) apu.PJ.bY λh=>?_);show 35e4 <|?_;show cK (tj (369 n H));show sP (by simp only[dK.fitsIndex,al.w7,al.acf,al.lb,mW];lia) λh h=>kY (by exact K.Az h0) <| sP bM λh h=>sP (by simp only[PH,mW,f0];lia) λh h=>?_;show cK (ny λh=>?_);show bf (wpAny_mkBytes ?_ (by rw[bO.size_replicate,f0];exact K.qw.bl hz));exact bW ⟨pn _ _ _,b _ _⟩
 ·exact⟨e.1,PySem.apu.acm Z _,object_init_meets PySem.apu.Qf.jI.bY PySem.apu.Qf.made ap bb w A.fg _ x ⟨e.1,H,e.2⟩⟩
universe e
universe e
section
open PySem PySem.W PyProof.Rows PySem.Spec PySem.SeqAt
open Builtin hiding id
set_option backward.match.sparseCases false
section
variable{bb:gR}{w:eA}{A:df}{E:af->ae->Prop}{s:ae}
def acJ{Q:0e5}(r:A.e8=L)
  (et:xe s.M it t i) (ht:jk s.M t aO) (hx:aO[i]? =L)
  (hE:∀h' e,ai.uZ it s.M h'->(∃o,42e8=0e4/\o.bi= 44e4)->E 9e7 36e1):41 (po.tm 33e0):=by
 unfold po.tm;show dU (id et) λo b n hd=>?_;(show gD ht λv p h nl k=>?_;try clear ht);show bf (389 et.mX acK
  (nw acK et.mX entry_tupleiter_next ?_ (args_tupleiter_next _)))
 refine aX _ _ (ro 33e0 0>>=_) _ _ s;show cK (hG b hd (x:= .N t) H λh=>?_);refine aX _ _ (if(af.N t==af.L)=true then _ else _) _ _ s;show kY (413 ((af.N t==af.L)=true)) <|?_;refine aX _ _ (ro 33e0 1>>=_) _ _ s;show cK (hG b hd (x:= 3 i) H λh=>?_);refine aX _ _ (seqItems? (.N t)>>=_) _ _ s;show cK (AI p k λh=>?_);simp only[K.tl,hx];show bf (ny (bf (uY b hd (by exact aci H) ?_)));refine aX _ _ (JV 44e4 []>>=_) _ _ _;show 23e7;dsimp-fs only[JV,newTuple];show bf 51e1;show cK (m:=JY _ _) (369 af.L (by first|rfl|(dsimp-fs only[JY];rfl)));show 51e1;dsimp-fs only[JZ];show cK (PW λh=>?_);first|rw[show A.fg.e8=L from r]|rw[r]
 show bf (bW (wpAny_throw ?_));exact hE _ _ (((ai.fy.eM ..).mq.b5 _).b5 _) ⟨_,10e0,H⟩
def acL{Q:137 ky}(app:A.e8=L)(k:i1≠z)(f:t≠z)
  (hz:tu s.M z TI TO .L) (AK:jk s.M TI #[.N i1,v2])
  (h1:xe s.M i1 t 0) (ht:jk s.M t #[])
  (hE:∀h' e,(∀c o,c≠z->c≠i1->37e1=0e4->h'.ao c=0e4)->(∃o,42e8=0e4/\o.bi= 44e4)->E 9e7 36e1):
  41 (Builtin.«zip.__next__» (61 [.N z])):=by
 refine aX _ _ (ro (.N z) 2>>=_) _ _ _;show cK (hG hz H (x:= 33e8) H λh=>?_);refine aX _ _ (ro (.N z) 3>>=_) _ _ _;show cK (hG hz H (x:= .N TI) H λh=>?_);(show gD AK λapq i h S j=>?_;try clear AK);show cK (AI i j λh=>?_);refine aX _ _ (Builtin.po.acM (.N z)>>=_) _ _ _;show 23e7;unfold Builtin.po.acM;show bf (hG hz H (x:= .L) H 20e3);dsimp-fs only[wC];show cK (ny λh=>?_);show cK (hG hz H (x:= .N TO) H λh=>?_);show cK (acN hz (by simp-fs) λl a b h=>?_);replace a:tu l z TI TO .ellipsis:=a;clear hz;show 23e7;dsimp-fs only[D.zipIdx_cons,D.zipIdx_nil,D.AL,D.forIn_nil];show 167 (acO ?_);refine aX _ _ (Builtin.po.tm (.N i1)>>=_) _ _ _;show bf (acJ app ((by(show aM h1 λo e r=>?_;try clear h1);exact⟨o,b.mq _ _ k e,r⟩)) (ht.mq b.mq f) (by simp-fs) λP e n m=>?_);(show aM m λd p v=>?_;try clear m);have u:tu P z TI TO .ellipsis:=n _ _ k.bh a;clear a;have g:e≠z:=λx=>by subst x;rw[u]at p;cases p;simp-fs at v
 show acN u (by simp-fs) λR h q=>hE R e (λc o c1 c3 x=>q.mq _ _ c1 (n _ _ c3 (b.mq _ _ c1 x))) ⟨d,q.mq _ _ g p,v⟩
def acP{Q:12e4->ae->Prop}(m:A.e8=L)(r:i1≠z)(p:t≠z)
  (hz:tu s.M z TI TO .L) (AK:jk s.M TI #[.N i1,v2]) (h1:xe s.M i1 t 0) (ht:jk s.M t #[])
  (hQ:∀h',(∀c o,c≠z->c≠i1->37e1=0e4->h'.ao c=0e4)->157 L):41 (oy (.N z)):=by
 have h:s.kH (.N z) "zip" :=(51 hz);unfold oy;show bf (tj (389 h apu.acQ
  (nw apu.acQ h apu.entry_zip_next (acL m r p hz AK h1 ht λh' e a x=>?_) (apu.args_zip_next_1 _))))
 (show aM x λo k n=>?_;try clear x);show cK (ox (apq:= "StopIteration") (b:=true) ⟨o,k,n⟩ P2 λv=>?_);exact bW (hQ _ a)
universe e
abbrev J9(h:ai)(s:aH):ai:=h.b5 (329 "tuple_iterator" #[.N s,1e4])
abbrev AM(h:ai)(s x:aH):ai:=(J9 h s).b5 (329 "list_iterator" #[.N x,1e4])
abbrev Ka(h:ai)(s x:aH):ai:=(AM h s x).b5 (307 #[.N h.O.an,.N (J9 h s).O.an])
abbrev AO(h:ai)(s x:aH):ai:=(Ka h s x).b5 (307 #[.L,.L])
abbrev xf(h:ai)(s x:aH):ai:=(AO h s x).b5 (336 45e4 #[.L,33e8,33e8,.N (AM h s x).O.an,.N (Ka h s x).O.an])
def acR(x e:aH)(xs a:16e5):
  Meets (Builtin.«zip.__new__» (61 [45e4,.N x,9e7])) (λv R s=>jk s.M x xs/\s.M.gW e a/\
   332 (.N (AO s.M x e).O.an) {s with M:=xf s.M x e}):=
 .of_wp λbb w A R s h=>by
  obtain(⟨b,g,d,tk,os⟩):=s;obtain⟨k,r,h⟩:=h;have n:=sub_zip;have m:jk (ae.M ⟨b,g,d,tk,os⟩) x xs:=k;have p:ai.gW (ae.M ⟨b.b5 (329 "tuple_iterator" #[.N x,1e4]),g,d,tk,os⟩) e a:=ai.gW.b5 r _;wp_walk using iter_tuple m,AJ p;exact⟨_,H,h⟩
section
variable{bb:gR}{w:eA}{A:df}{E:af->ae->Prop}{s:ae}
def acS{Q:0e5}(n:jk s.M l1 xs)(k:s.M.gW l2 apZ)
  (h:∀h',tu h' (179 4) (179 2) (179 3) .L->IsPair h' (179 2) 9e9 24e0->
   xe h' s.M.O.an l1 0->h'.O.an=s.M.O.an+5->
   (∀c o,37e1=0e4->h'.ao c=0e4)->157 (.N (179 4))):
  41 (aW 45e4 [.N l1,.N l2]):=by
 show acl apu.called_zip ap (apu.typeCall_zip_2 _ _) (apu.newCall_zip_2 _ _) (λZ=>apu.args_object_init_3 Z _ _) apu.entry_zip_new
  (acR l1 l2 xs apZ) ⟨n,k,?_⟩
 have p:(J9 s.M l1).O.an=s.M.O.an+1:=ai.iM ..;have a:(AM s.M l1 l2).O.an=s.M.O.an+2:=by rw[ai.iM,p]
 have r:(Ka s.M l1 l2).O.an=s.M.O.an+3:=by rw[ai.iM,a]
 have e:(AO s.M l1 l2).O.an=s.M.O.an+4:=by rw[ai.iM,r]
 have m:(xf s.M l1 l2).O.an=s.M.O.an+5:=by rw[ai.iM,e]
 have b:(xf s.M l1 l2).ao (AO s.M l1 l2).O.an=G _:=10e0;have g3:(xf s.M l1 l2).ao (AM s.M l1 l2).O.an=G _:=340 10e0;have g1:(xf s.M l1 l2).ao s.M.O.an=G _:=86 (340 (86 10e0));refine _/\_;rw[a,r,e]at b;rw[p,a]at g3;rw[e];exact⟨(51 b),h _ b g3 ⟨_,g1,H,H⟩ m λc o x=>
  ai.em _ (86 (340 (86 x)))⟩
universe e
universe e
section
open PySem PySem.W PyProof.Rows
set_option backward.match.sparseCases false
set_option genCtorIdx true in
inductive V where
 |aa (v:af)
 |bo (b:al) (t:al)
 |y (i:K) (t:al)
 |ag (s:am)
 |cg (b:D bd)
 |X (l:D V)
 |ad (l:D V) (t:al)
 |eh (b:D bd)
 |Z (i:I)
set_option genCtorIdx true in
inductive aps where
 |ay (l:D V) (t:al)
 |au (l:D V)
 |bv (l:D (V×V))
 |bu (C:aH) (d:D (I×V))
 |eF (b:D bd)
 |cV (k:V) (i:V)
 |a7 (C:aH) (d:D (I×V))
inductive Tg where
 |n (k:I)
 |t (l:D I)
set_option genCtorIdx true in
inductive apw where
 |c (v:V)
 |l (n:I)
 |eU (n:I)
 |oD (n:I)
 |g (n:I)
 |eY (e:apw) (n:I)
 |a1 (e i:apw)
 |kI (e:apw) (lo hi:D apw)
 |a5 (op:rI) (a b:apw)
 |oF (e:apw)
 |gZ (e:apw)
 |lg (l:D apw)
 |i6 (l:D apw)
 |bT (a:apw) (o:D jl) (l:D apw)
 |ff (c a b:apw)
 |X (l:D apw)
 |ad (l:D apw)
 |oG (k v:D apw)
 |iD (pr:apw) (tg:Tg) (it:apw) (j7:D apw)
 |aW (f:apw) (as:D apw)
 |bk (o:apw) (n:I) (as:D apw)
 |lam
 |d2 (e:apw)
set_option genCtorIdx true in
inductive apq where
 |n (k:I)
 |a (o:apw) (n:I)
 |s (o i:apw)
 |sl (o:apw) (lo hi:aq apw)
 |t (l:D apq)
set_option genCtorIdx true in
inductive S where
 |bx (t:apq) (e:apw)
 |ex (e:apw)
 |bj (e:aq apw)
 |bC (c:apw) (a b:D S)
 |lO (c:apw) (b:D S)
 |mr (t:Tg) (i:apw) (b:D S)
 |kJ (e:apw)
 |AP (b:D S) (hs:D (apw×aq I×D S))
 |xh (b f:D S)
 |AQ
structure Fn where
 ps:D I
 ds:D apw
 cW:D S
universe e
section
open PySem PySem.W
set_option backward.match.sparseCases false
def ap0:am:= "~no operation on two numbers"
def Z1:am:= "~octets"
def Z2:am:= "~tables"
def Z3:am:= "~cells"
def Z4:am:= "~limits"
def Z5:am:= "~elems"
def Z6:am:= "~datas"
def Z7:am:= "~noted"
def Z8:am:= "~steps"
def Z9:am:= "~end"
def tv:am:= "~far"
def cL:am:= "~out of bounds memory access"
def cZ:am:= "~out of bounds table access"
def Qg:am:=⟨#[]⟩
def j9:am:= "~exhausted"
def h7:am:= "~call stack"
def xi:am:= "~undefined element"
def xj:am:= "~uninitialized element"
def xk:am:= "~indirect call type mismatch"
def lh:am:= "~done"
def rJ:am:= "~trap"
def Z21:am:= "~more pages than are let"
def Z22:am:= "~more elements than are let"
def Z23:am:= "~results of another kind"
def Z24:am:= "~the call is through"
def Z25:am:= "~unreachable"
def Z26:am:= "~fuel"
abbrev apw.i(n:K):apw:= .c (0 n)
abbrev apw.z:apw:= .c 0e6
abbrev apw.s(z:am):apw:= .c 7e8
abbrev apw.k(n:I)(l:23e6):apw:= 168 n l
abbrev apw.e(a b:apw):apw:= 63 a .Eq [b]
abbrev apw.w(a b:apw):apw:= 63 a .gK [b]
abbrev apw.a(n m:I):apw:= .eY (.l n) m
abbrev S.v(n:I)(x:apw):S:= .bx (.n n) x
abbrev S.r(x:apw):S:= .bj (G x)
def f84:Fn:=(4 [0,1] [.r (35 .xm 0 (80 .jm (163 .px 3e5 1) 1))])
def f91:Fn:=(4 [0,1] [.r (.ff (35 .xn 0 (35 .jm 1 (.i 1))) (35 .jm 0 (163 .px 3e5 1)) (.l 0))])
def acT:Fn:=(4 [0,2,1] [195 3 [.k 4 [.k 3 [.l 0,.l 2],.l 2],.l 1]])
def acU:Fn:=(4 [0,5,1] [195 3 [95 0 5,.l 1]])
def acV:Fn:=(4 [6,7,8,9] [60 7 [.lj,.Lt] [17e0,95 7 9] [277 [35 .jm 6 (.l 7),21e7]] [],60 8 [.lj,.Lt] [17e0,95 8 9] [277 [35 .jm 6 (.l 8),16e7]] [],.r (.z)])
def acW:Fn:=(4 [6] [99 (.g 11) [.lj,.Lt] [17e0,.g 10] [277 [.a5 .px (.i 8) (35 .jm 6 (.g 11)),21e7]],99 (.g 10) [.lj,.Lt] [17e0,80 .dv (.g 10) 3] [277 [.a5 .px (.i 8) (35 .jm 6 (.g 10)),16e7]],.r (.ff (178 6 (.g 12)) (.X [21e7,16e7]) (.z))])
def acX:Fn:=(4 [6] [60 6 [.In] [.X [.g 13,.g 14,.g 15,.g 16]] [.r (.c 47e0)] [],.r (.i6 [63 (.k 17 [17e0,.g 18,.g 19,193 (.g 21)]) .oH [.z],63 (.k 22 [17e0]) .oH [.z]])])
def acY:Fn:=(4 [6,0,5] [.v 23 (.k 17 [17e0,.g 24,.g 25,193 (.g 26)]),60 23 [.oH] [.z] [.r (.aW (.a1 (.g 26) (65 23 0)) [.l 0,.l 5,65 23 1])] [],.v 23 (.k 17 [17e0,.g 27,.g 28,193 (.g 29)]),60 23 [.Is] [.z] [248 30 [.s ap0]] [],.r (.aW (.a1 (.g 29) (65 23 0)) [.l 0,.l 5,65 23 1])])
def acZ:Fn:=(4 [31] [.r (111 31 .In [.g 32])])
def ac0:Fn:=(4 [31] [.r (.ff (178 31 (.g 33)) 21e7 16e7)])
def ac1:Fn:=(4 [31] [.r (.ff (.k 34 [.l 31]) (.z) 2e3)])
def ac2:Fn:=(4 [6] [.r (111 6 .In [.X [.g 35,.g 36,.g 37]])])
def Qh:Fn:=(4 [38] [128 [.n 39,.n 40,.n 41] [.oG [] [],.oG [] [],49e2],.mr (.t [42,43]) (.k 44 [.l 38]) [38e7,.bC (.k 45 [17e0]) [221 41 46 [5e9]] [.bC (178 6 (.g 47)) [142 (.l 40) (114 41 36e7) 5e9] [250 (.lg [178 6 (.g 48),.w (.l 41) 25e0]) [.v 49 (.bk (.l 41) 50 []),142 (.l 39) 29e9 5e9,60 49 [.In] [.l 40] [142 (.l 39) (114 40 29e9) 5e9] []]]]],277 [.l 39,.l 40]])
def ac3:Fn:=(4 [51] [.v 23 2e3,.mr (.t [52,53]) (.k 44 [.l 51]) [.v 23 (35 .BitOr 23 (35 .px 53 (223 (.i 8) 52)))],.r (.l 23)])
def ac4:Fn:=(4 [54,55] [195 56 [.iD (80 .xm (.a5 .xn (.oD 54) (223 (.i 8) 52)) 255) (.n 52) (.k 57 [.l 55]) []]])
def ac5:Fn:=(4 [42,9,55,58] [333 [63 5e9 .Lt [2e3],111 9 .Lt [2e3],63 (95 42 9) .Gt [.l 55]] [248 59 [35e5]]])
def ac6:Fn:=(4 [31,60] [250 (.lg [.k 34 [.l 31],111 60 .Is [.z]]) [.r (.c 47e0)],333 [.oF (.k 61 [.l 60,.g 62]),.k 61 [.l 60,.g 63],111 60 .Lt [2e3]] [46e0],.r (.i6 [.k 34 [.l 31],.lg [111 31 .In [.X [.g 33,.g 64]],111 60 .Lt [.a5 .px 3e5 (.k 65 [.l 31])]]])])
def ac7:Fn:=(4 [66,67] [250 (.w (194 66) (194 67)) [46e0],195 68 [.iD (.k 69 [.l 31,.l 60]) (.t [31,60]) (.k 70 [.l 66,.l 67]) []]])
def ac8:Fn:=(4 [55,71,72,73] [.v 23 (95 55 71),333 [111 71 .Lt [2e3],111 23 .Gt [.l 73],.lg [111 72 .oH [.z],111 23 .Gt [.l 72]]] [.r (.z)],.r (.l 23)])
def ac9:Fn:=(4 [] [269 [.X [5e7,5e7],.X [.X [36e7],5e7],.X [.X [.gZ 4e7],5e7],.X [.X [.gZ 16e6],5e7],.X [.X [.gZ (.i 17)],5e7],.X [.X [36e7,.gZ 4e7],.X [.gZ 4e7]]]])
def ada:Fn:=(4 [] [.v 74 (.oG [.i 40,.i 41,.i 44,.i 45,.i 46,.i 47] [.X [17e9,2e3,21e7],.X [.i 8,2e3,16e7],.X [3e5,3e5,21e7],.X [3e5,2e3,21e7],.X [4e7,3e5,21e7],.X [4e7,2e3,21e7]]),221 74 75 [.oG [.i 48,.i 49,.i 50,.i 51,.i 52,.i 53] [.X [3e5,3e5,16e7],.X [3e5,2e3,16e7],.X [4e7,3e5,16e7],.X [4e7,2e3,16e7],.X [17e9,3e5,16e7],.X [17e9,2e3,16e7]]],221 74 75 [.oG [.i 54,.i 55,.i 58,.i 59,.i 60,.i 61] [.X [17e9,2e3,21e7],.X [.i 8,2e3,16e7],.X [3e5,2e3,21e7],.X [4e7,2e3,21e7],.X [3e5,2e3,16e7],.X [4e7,2e3,16e7]]],142 (.l 74) (.i 62) (.X [17e9,2e3,16e7]),.r (.l 74)])
def adb:Fn:=(4 [76] [.r (239 [2e3,3e5,36e7,80 .jm (80 .kK 4e7 31) 1,.gZ (80 .kK 4e7 31),.i 255,.gZ (.i 129),173 1000] (173 8))])
def f1351:Fn:=(4 [77,78] [197 77 1 [.r (.ff (63 (232 78 2) .Eq [2e3]) (.ad [.X [21e7,2e3]]) (.ad [.X [.i 208,.gZ (.i 17)]]))] [],.r (.ff (63 (232 78 3) .Eq [2e3]) (.ad [.X [.i 208,.gZ 16e6]]) (.ad [.X [.i 210,310 78 3 6]]))])
def f1358:Fn:=(4 [76,72] [269 [.X [16e8,35 .bn 76 (.l 72)],.X [16e8,163 .bn (35 .cb 76 (.l 72)) 72],.X [16e8,286 (35 .cb 76 (35 .kK 72 (.i 2))) 8]]])
def f1363:Fn:=(4 [79,76] [99 (.eU 79) [.Lt] [17e9] [.v 80 (.iD 17e0 (.n 6) (.k 81 [.k 82 []]) [63 (111 6 .Lt [.i 54]) .Eq [63 (.oD 79) .Lt [4e7]]]),.v 6 (114 80 (35 .bn 76 (194 80))),128 [.n 1,.n 78] [.a1 (.a1 (.k 82 []) 17e0) 4e7,35 .cb 76 (194 80)],99 (.eU 79) [.Lt] [4e7] [269 [.X [16e8,232 78 17],.X [17e0,2e3,310 78 17 3],.X [16e6,189 1 32 3e5 4e7]]],.v 54 (189 1 32 (.k 83 [213 78 34]) (239 [.k 83 [213 78 34],163 .jm (80 .jm (80 .kK 4e7 63) 1) 78,163 .dv (.gZ (80 .kK 4e7 63)) 78] (232 78 3))),269 [.X [16e8,232 78 17],.X [189 1 32 16e8 (.i 66),.l 54],.X [17e0,2e3,310 78 17 2]]],250 (.e (.eU 79) 17e9) [269 [.X [.i 63],.X [16e6,3e5]]],250 (.e (.eU 79) (.i 5)) [269 [.X [16e8,239 [2e3,3e5,4e7,36e7] (173 4)],.X [16e7],.X [16e6,3e5]]],250 (.e (.eU 79) (.i 6)) [269 [.X [16e8,173 18],.X [16e8,80 .jm (310 76 18 700) 100],.X [16e8,310 76 12600 7],.X [.i 64523]]],250 (.e (.eU 79) (.i 7)) [.r (330 (.k 84 [.l 76,.i 18]) [.X [.i 64522]])],.r (.ff (.e (.eU 79) (.i 8)) (330 (.k 84 [213 76 2,.i 17]) [.X [.i 64520,173 2]]) (.ad [.X [.i 64521,173 2]]))])
def f1370:Fn:=(4 [79,76] [.v 77 (173 3),.v 78 (213 76 3),197 79 12 [269 [.X [16e8,232 78 8],.X [.i 37,.l 77],.X [16e6,189 77 1 17e9 24e2]]] [],197 79 13 [.r (330 (214 (.ad [.X [16e8,232 78 8]]) (.k 85 [.l 77,213 78 8])) [.X [.i 38,.l 77]])] [],197 79 14 [269 [.X [.i 64528,.l 77],.X [16e6,3e5]]] [],197 79 15 [.r (330 (.k 85 [.l 77,.l 78]) [.X [16e8,239 [2e3,3e5,4e7,24e2,36e7] (310 78 18 5)],.X [.i 64527,.l 77],.X [16e6,3e5]])] [],197 79 16 [.r (330 (214 (.ad [.X [16e8,232 78 6]]) (.k 85 [.l 77,213 78 6])) [.X [16e8,310 78 108 5],.X [.i 64529,.l 77]])] [],197 79 17 [.bx (.t [.n 86,.n 49]) (239 [.X [2e3,4e7],.X [4e7,2e3],.X [2e3,2e3],.X [3e5,3e5],.X [4e7,4e7]] (173 5)),.r (330 (.k 84 [213 76 5,.i 6]) [.X [.i 64526,.l 86,29e9]])] [],197 79 18 [.bx (.t [.n 87,.n 88]) (239 [.X [2e3,2e3],.X [2e3,4e7],.X [3e5,3e5]] (.l 77)),.r (330 (.k 84 [.l 78,.i 6]) [.X [.i 64524,.l 87,.l 88]])] [],269 [.X [.i 64525,173 2]]])
def f1377:Fn:=(4 [0] [.v 79 (232 0 24),.v 76 (213 0 24),60 79 [.Lt] [.i 10] [195 89 [.l 79,.l 76]] [],197 79 10 [269 [.X [.i 35,173 3],.X [16e6,214 3e5 (173 3)]]] [],197 79 11 [.v 60 (.ff (63 (173 3) .Eq [4e7]) (.k 85 [2e3,213 76 3]) (.ad [.X [214 16e8 (173 3),.k 83 [213 76 3]]])),.r (35 .dv 60 (.ad [.X [.i 36,173 3]]))] [],60 79 [.Lt] [.i 20] [195 90 [.l 79,.l 76]] [],197 79 20 [.r (330 (.k 85 [173 2,213 76 2]) [.X [.i 209],.X [16e6,3e5]])] [],.v 91 (.ad [.X [16e8,.k 83 [.l 76]],.X [.i 66,.k 83 [213 76 8]]]),197 79 23 [.r (35 .dv 91 (.ad [.X [16e6,.i 5],.X [16e6,4e7]]))] [],.v 31 (239 [.i 5,.i 5,3e5,4e7] (173 4)),.v 92 (189 31 5 (.l 91) (.kI (.l 91) [(35 .jm 31 (.i 1))] [(.l 31)])),.r (214 (35 .dv 92 (.ad [.X [16e8,310 76 8 8],.X [.i 17,.l 31,239 [2e3,4e7] (310 76 4 2)]])) (189 31 5 (.ad [.X [16e6,4e7]]) 25e0))])
def Qi:Fn:=(4 [93] [.v 38 49e2,.mr (.n 54) (.kI 35e6 [] [(.i 6)]) [221 38 94 [.k 95 [232 54 100000007]]],99 (194 93) [.Gt] [.i 6] [221 38 94 [.ad [.X [16e8,286 (65 93 6) 100],.X [16e8,286 (80 .cb (65 93 6) 100) 7],.X [.i 19,3e5,239 [2e3,4e7] (286 (80 .cb (65 93 6) 700) 2)]]]],.r (35 .dv 38 (.ad [.X [.i 11]]))])
def f1389:Fn:=(4 [93] [.v 96 (.k 97 [35e6]),.v 98 (.oG [.s Z1,.s Z2] [.d2 (.iD (286 (214 (.oD 96) (223 (.i 37) 99)) 256) (.n 99) (.k 57 [16e6]) []),.ad [356 [24e2,.z,4e7,3e5],356 [.z,.i 6],356 [2e3,24e2,.z]]]),128 [.s 17e4 (.s Z3),.s 17e4 (.s Z4)] [356 [.a5 .bn (.eU 96) (80 .kK 4e7 32),.a5 .bn (80 .f4 (.eU 96) 7) (80 .kK 4e7 64),.z],.ad [.i 6,17e9,.i 7]],128 [.s 17e4 (.s Z5),.s 17e4 (.s Z6)] [356 [.ad [24e2,.z,4e7,3e5],.ad [.z,.i 5]],356 [.k 56 [.iD (286 (163 .dv (.oD 96) 99) 256) (.n 99) (.k 57 [.i 8]) []],.c (.cg [120,121])]],128 [.s 17e4 (.s Z7),.s 17e4 (.s Z8),.s 17e4 (.s Z9),.s 17e4 (.s tv)] [49e2,2e3,.z,286 (.eU 96) 1000],.r 17e4])
def va:Fn:=(4 [31,100] [195 101 [.a1 (.k 102 []) (.eU 31),.lam]])
def f1401:Fn:=(4 [93,98,38,100] [128 [.n 103,.n 104,.n 105] [.k 102 [],.k 106 [16e6,24e2,.i 7],.k 107 []],128 [.n 108,.n 109] [.k 110 [.k 111 [.l 103,25e0]],.k 110 [.k 111 [.l 103,25e0]]],128 [.a 43e5 112,.a 43e5 113,.a 43e5 114,.a 43e5 115] [.ad [3e5,4e7,2e3,17e9,.i 5,24e2],.ad [3e5,2e3,4e7],.ad [3e5],.ad [4e7,2e3,24e2]],128 [.a 43e5 116,.a 43e5 117] [.d2 (.iD (225 [.l 119]) (.n 119) (74 Z5) []),.d2 (225 [74 Z6])],207 (.l 109) 115 (.ad [3e5]),.v 120 (.k 121 [.i 5,5e7,.ad [.X [21e7,3e5],.X [.i 35,2e3],.X [.i 124],.X [.i 11]]]),.v 122 (.iD (.k 123 [.l 31,.oD 100]) (.n 31) (.X [4e7,3e5,24e2,17e9]) []),207 (.l 105) 112 (.ad [65 122 0,.k 124 [65 103 4,43e5,.k 121 [17e9,5e7,.l 38]],65 122 1,.k 124 [65 103 5,.l 109,.l 120],65 122 2,65 122 3]),207 (.l 105) 113 (.ad [.k 125 [.gZ (.i 17),4e7,17e9,.l 104],.k 125 [.gZ 16e6,17e9,.i 6,.l 104],.k 125 [.gZ 16e6,24e2,.z,.l 104]]),.mr (.t [52,126]) (.k 44 [.a 108 113]) [207 (.a1 (.a 105 113) 25e4) 119 (.d2 (225 [303 Z2 (.l 52)]))],207 (.l 105) 114 (.ad [.k 127 [3e5,3e5,.l 104],.k 127 [3e5,4e7,.l 104]]),104 (.a1 (.a 105 114) 3e5) 128 [2e3,.k 56 [74 Z1]],.v 129 (74 Z3),207 (.l 105) 115 (.ad [.k 130 [.gZ 4e7,3e5,65 129 1],.k 130 [.gZ 4e7,2e3,74 tv],.k 130 [36e7,3e5,65 129 0],.k 130 [.gZ 16e6,3e5,.z]]),277 [.l 105,43e5]])
def f1406:Fn:=(4 [98,131,132] [.bx (.t [.n 55,.n 133,.n 1]) (.a1 (.k 82 []) (262 0)),128 [.n 51,.n 54] [74 Z1,.z],99 (262 0) [.oJ] [.i 54] [.v 54 22e9],.v 42 (214 22e9 (262 2)),99 (163 .dv (.eU 42) 55) [.Gt] [193 (.eU 51)] [.r (.s cL)],60 54 [.oH] [.z] [.mr (.n 99) (.k 57 [.l 55]) [142 (.eU 51) (163 .dv (.eU 42) 99) (286 (35 .cb 54 (163 .kK (.i 256) 99)) 256)],.r (.z)] [],.v 23 (.k 97 [.iD (.a5 .f4 (.a1 (.oD 51) (163 .dv (.oD 42) 99)) (163 .kK (.i 256) 99)) (.n 99) (.k 57 [.l 55]) []]),250 (.lg [178 133 (.i 1),111 23 .oJ [.a5 .kK 4e7 (80 .jm (223 (.i 8) 55) 1)]]) [.v 23 (214 (35 .jm 23 (.a5 .kK 4e7 (223 (.i 8) 55))) (163 .kK 4e7 1))],292 [.l 23],.r (.z)])
def f1413:Fn:=(4 [134,71,72,55,135] [.v 136 (163 .cb (194 134) 55),99 (95 136 71) [.Gt] [.l 72] [.r (80 .jm (80 .kK 4e7 32) 1)],221 134 94 [.a5 .f4 (.ad [.l 135]) (35 .f4 71 (.l 55))],.r (.l 136)])
def Qj:Fn:=(4 [88,42,137,49,9,58] [333 [63 (95 49 9) .Gt [194 137],63 (95 42 9) .Gt [194 88]] [.r 35e5],.mr (.t [99,60]) (.k 44 [.kI (.l 137) [29e9] [(95 49 9)]]) [142 (.l 88) (95 42 99) (.l 60)],.r (.z)])
def f1427:Fn:=(4 [98,131,132] [128 [.n 6,.n 113] [262 0,74 Z2],49 64527 [128 [.n 71,.n 60] [22e9,22e9],292 [.k 138 [114 113 23e9,.l 71,303 Z4 23e9,3e5,.l 60]],.r (.z)] [],128 [.n 9,.n 139,.n 42] [22e9,22e9,22e9],60 6 [.In] [.X [.i 64520,.i 64522,.i 64523]] [128 [.n 137,.n 49] [74 Z1,38e0],49 64520 [.v 137 (225 [.i6 [303 Z6 23e9,.c (.cg [])]])] [],49 64523 [128 [.n 137,.n 49] [223 (.ad [232 139 256]) 9,2e3]] [],195 140 [74 Z1,5e9,.l 137,29e9,15e4,.s cL]] [],.v 88 (114 113 (189 6 64524 (262 2) 23e9)),49 64529 [.r (.ff (63 (95 42 9) .Gt [194 88]) (.s cZ) (.k 140 [.l 88,5e9,223 (.ad [38e0]) 9,2e3,15e4,.s Qg]))] [],.v 137 (189 6 64524 (225 [.i6 [303 Z5 23e9,25e0]]) (225 [114 113 (262 2)])),195 140 [.l 88,5e9,.l 137,38e0,15e4,.s cZ]])
def f1434:Fn:=(4 [98,126,132,141] [.v 66 (.ad [4e7,17e9,3e5,.i 5,24e2,17e9]),.bC (.w 25e4 24e2) [104 (74 Z7) 46 [.X [114 66 25e4,.ad [22e9]]]] [197 141 1 [142 17e4 (.s Z9) (.X [.s j9,.s h7])] [128 [.n 139,.n 96] [22e9,22e9],292 [.a5 .bn (35 .dv 139 (74 tv)) (80 .kK 4e7 64)],142 17e4 (.s Z8) (80 .dv (74 Z8) 4)]],.r (.z)])
def f1441:Fn:=(4 [98,131,132,141] [128 [.n 119,.n 42] [303 Z2 (262 2),22e9],99 5e9 [.oJ] [194 119] [.r (.s xi)],99 (114 119 5e9) [.Is] [.z] [.r (.s xj)],99 (239 [4e7,17e9,3e5,.i 5,24e2,17e9] (114 119 5e9)) [.gK] [23e9] [.r (.s xk)],195 142 [17e4,114 119 5e9,36e2,.l 141]])
def f1448:Fn:=(4 [98,131,132,141] [128 [.n 6,.n 113] [262 0,74 Z2],60 6 [.In] [.X [16e8,.i 66]] [292 [.a5 .bn 23e9 (.a5 .kK 4e7 (189 6 65 21e7 16e7))]] [60 6 [.In] [.X [21e7,.i 208,.i 210]] [292 [189 6 32 (.i 9) (189 6 208 (.z) (239 [3e5,4e7,2e3,17e9,.i 5,24e2] 23e9))]] [49 209 [292 [.k 62 [63 22e9 .Is [.z]]]] [49 16 [195 142 [17e4,239 [3e5,4e7,2e3,17e9,.i 5,24e2] 23e9,36e2,.l 141]] [60 6 [.In] [.X [.i 17,.i 19]] [195 143 [17e4,.l 131,36e2,.l 141]] [49 35 [292 [303 Z3 23e9]] [49 36 [142 (74 Z3) 23e9 22e9] [60 6 [.In] [.X [.i 37,.i 38]] [.v 60 (189 6 38 22e9 (.z)),.v 42 22e9,99 5e9 [.oJ] [193 (114 113 23e9)] [.r (.s cZ)],49 38 [142 (114 113 23e9) 5e9 (.l 60)] [292 [.a1 (114 113 23e9) 5e9]]] [60 6 [.In] [.X [.i 63,16e7]] [.v 71 (189 6 64 22e9 2e3),292 [.k 138 [74 Z1,.l 71,4e7,16e6,2e3]]] [60 6 [.Lt] [16e7] [195 144 [17e4,.l 131,36e2]] [60 6 [.In] [.X [.i 64521,.i 64525]] [142 (114 98 (189 6 64521 (.s Z6) (.s Z5))) 23e9 (.z)] [49 64528 [292 [193 (114 113 23e9)]] [195 145 [17e4,.l 131,36e2]]]]]]]]]]]]],.r (.z)])
def Qk:Fn:=(4 [98,38,141] [.v 132 49e2,.mr (.n 131) (.l 38) [142 17e4 (.s Z8) (80 .dv (74 Z8) 1),99 (262 0) [.Eq] [.i 11] [277 [.s lh,.k 146 [36e2]]],.v 58 (.k 147 [17e4,.l 131,36e2,.l 141]),333 [111 58 .oH [.z],63 (74 Z9) .oH [.z]] [.r (.ff (111 58 .oH [.z]) (.X [.s rJ,35e5]) (74 Z9))],99 (262 0) [.Eq] [.i 19] [277 [.s lh,.k 146 [36e2]]]],.r (.z)])
def f1462:Fn:=(4 [148] [.AP [221 148 151 []] [(.g 59,G 149,[277 [.s rJ,.a 149 58]]),(.g 150,G 149,[277 [.s j9,.a 149 58]])],277 [.s lh,.k 146 [.a 148 132]]])
def qx:Fn:=(4 [93] [128 [.n 38,.n 98,.n 100] [.k 152 [35e6],.k 153 [35e6],49e2],.bx (.t [.n 105,.n 108]) (.k 154 [35e6,17e4,.l 38,.l 100]),.v 141 (.ff (.lg [.w 35e6 25e0,63 (286 (65 93 0) 5) .Eq [2e3]]) 3e5 24e2),.v 155 (.k 156 [.eU 105,.z,.l 141]),.v 157 (.k 158 [.k 159 [.l 155,3e5,.ad [.i 9]]]),333 [.w (.l 157) (.k 160 [17e4,.l 38,.l 141]),63 (.a 155 161) .gK [74 Z8],111 100 .gK [74 Z7]] [46e0],99 (.iD (225 [.eY (210 (.oD 105) 113 25e4) 119]) (.n 126) (.a 108 113) []) [.gK] [74 Z2] [46e0],333 [63 (225 [.eY (210 (.eU 105) 114 3e5) 162]) .gK [74 Z1],63 (225 [.eY (210 (.eU 105) 114 2e3) 162]) .gK [80 .f4 (.ad [2e3]) 16]] [46e0],99 (.iD (.a 163 60) (.n 163) (.eY (.eU 105) 115) []) [.gK] [.ad [303 Z3 3e5,74 tv,303 Z3 2e3,303 Z3 4e7]] [46e0],.r (.lg [63 (.a 108 116) .Eq [74 Z5],63 (.a 108 117) .Eq [74 Z6]])])
def Ql:Fn:=(4 [164,58] [104 (.g 165) 166 [28e1,35e5],26 58 58])
def f370:Fn:=⟨[164,167,168,169,141,170],[.i 65536,.i 65536,.i 4294967295,.i 200,.z],[26 167 167,26 168 168,26 169 169,26 141 141,26 170 170]⟩
def f499:Fn:=(4 [164,171,72,104] [60 171 [.Gt] [.a 104 168] [248 30 [.s Z21]] [],26 72 72,30 167 (.a 104 167),30 168 (.a 104 168),30 162 (.k 172 [35 .f4 171 (.a 104 167)])])
def f506:Fn:=(296 [.r (.a5 .cb (267 162) (33 167))])
def f520:Fn:=(4 [164,71] [.v 136 (.bk 28e1 55 []),99 (.k 173 [.l 136,.l 71,33 72,33 168]) [.Is] [.z] [.r (.g 174)],104 43e3 94 [.k 56 [35 .f4 71 (33 167)]],.r (.l 136)])
def f527:Fn:=(4 [164,42,9] [.ex (.k 175 [5e9,15e4,267 162,.g 176])])
def f534:Fn:=(4 [164,42,55] [255 [5e9,.l 55],195 178 [.kI 43e3 [5e9] [(95 42 55)]]])
def f541:Fn:=(4 [164,42,55,54] [255 [5e9,.l 55],.bx (.sl 43e3 (G 5e9) (G (95 42 55))) (.k 179 [35 .xm 54 (80 .jm (.a5 .px 3e5 (223 (.i 8) 55)) 1),.l 55])])
def f555:Fn:=(4 [164,42,51] [255 [5e9,194 51],.bx (.sl 43e3 (G 5e9) (G (35 .dv 42 (194 51)))) (.l 51)])
def f562:Fn:=(4 [164,42,54,9] [255 [5e9,15e4],.bx (.sl 43e3 (G 5e9) (G (95 42 9))) (223 (.k 56 [.ad [35 .xm 54 (.i 255)]]) 9)])
def f569:Fn:=(4 [164,86,49,9] [255 [29e9,15e4],255 [.l 86,15e4],.bx (.sl 43e3 (G (.l 86)) (G (95 86 9))) (.kI 43e3 [29e9] [(95 49 9)])])
def f576:Fn:=(4 [164,42,51,49,9] [.v 134 (.ff (111 51 .Is [.z]) (.c (.cg [])) (.l 51)),.ex (.k 175 [29e9,15e4,194 134,.g 176]),255 [5e9,15e4],.bx (.sl 43e3 (G 5e9) (G (95 42 9))) (.kI (.l 134) [29e9] [(95 49 9)])])
def f604:Fn:=(4 [164,31,171,72,104] [60 171 [.Gt] [.a 104 169] [248 30 [.s Z22]] [],26 31 31,26 72 72,30 169 (.a 104 169),30 119 (223 (.ad [.z]) 171)])
def f611:Fn:=(296 [.r (267 119)])
def f625:Fn:=(4 [164,42,9] [.ex (.k 175 [5e9,15e4,267 119,.g 180])])
def f632:Fn:=(4 [164,42] [255 [5e9,3e5],.r (.a1 (33 119) 5e9)])
def f639:Fn:=(4 [164,42,60] [255 [5e9,3e5],142 (33 119) 5e9 (.l 60)])
def f646:Fn:=(4 [164,71,60] [.v 136 (267 119),99 (.k 173 [.l 136,.l 71,33 72,33 169]) [.Is] [.z] [.r (.g 174)],104 (33 119) 94 [223 (.ad [.l 60]) 71],.r (.l 136)])
def f653:Fn:=(4 [164,42,60,9] [255 [5e9,15e4],.bx (.sl (33 119) (G 5e9) (G (95 42 9))) (223 (.ad [.l 60]) 9)])
def f660:Fn:=(4 [164,86,137,49,9] [221 137 177 [29e9,15e4],255 [.l 86,15e4],.bx (.sl (33 119) (G (.l 86)) (G (95 86 9))) (.kI (.a 137 119) [29e9] [(95 49 9)])])
def f667:Fn:=(4 [164,42,119,49,9] [.v 134 (.ff (111 119 .Is [.z]) 25e0 (.l 119)),.ex (.k 175 [29e9,15e4,194 134,.g 180]),255 [5e9,15e4],.bx (.sl (33 119) (G 5e9) (G (95 42 9))) (.kI (.l 134) [29e9] [(95 49 9)])])
def f695:Fn:=(4 [164,31,181,60] [26 31 31,26 181 181,26 60 60])
def f744:Fn:=(4 [164,31,182,183] [26 31 31,26 182 182,26 183 183])
def f751:Fn:=(296 [46e0])
def f772:Fn:=(4 [164,31,184] [26 31 31,26 184 184])
def f779:Fn:=(296 [.r (.c 47e0)])
def f786:Fn:=(4 [164,67] [.v 23 (225 [217 184 [225 [.l 67]]]),250 (.oF (.k 185 [.a1 (33 31) 3e5,.l 23])) [248 30 [.s Z23]],.r (.l 23)])
def f807:Fn:=(4 [164,186] [26 186 186,30 66 (225 [.a 186 66]),30 112 25e0,30 113 25e0,30 114 25e0,30 115 25e0,30 116 25e0,30 117 25e0,30 187 (.oG [] [])])
def f842:Fn:=(4 [164,188] [142 (33 116) (.l 188) (.z)])
def f849:Fn:=(4 [164,188] [142 (33 117) (.l 188) (.z)])
def f870:Fn:=(4 [164,66,112] [26 66 66,26 112 112])
def f891:Fn:=(296 [30 112 25e0])
def f912:Fn:=(4 [164,189,190,191,192] [26 189 189,26 190 190,26 191 191,26 192 192])
def f940:Fn:=(4 [164,126,183,193,194,195] [26 126 126,30 182 (.a 183 182),30 38 (.eY (.a 183 183) 38),30 190 (193 (.a1 (.a 183 31) 3e5)),30 39 (65 193 0),30 40 (65 193 1),26 196 194,26 195 195,30 42 2e3,30 197 (356 [.k 198 [267 38,33 190,.l 195,.c 31e0]])])
def f947:Fn:=(296 [.r (63 (33 42) .oJ [267 38])])
def f975:Fn:=(4 [164,155,126,67] [26 155 155,30 105 (.a 155 105),30 199 (.a 155 199),30 132 (.d2 (225 [.l 67])),30 200 49e2,30 201 (.c 31e0),73 202 [25e4]])
def f982:Fn:=(296 [.r (.e (267 200) 2e3)])
def f989:Fn:=(296 [.r (214 (33 199) (267 200))])
def Kb:Fn:=⟨[164,9],[.z],[.v 203 2e3,.lO (.lg [63 (267 200) .Gt [2e3],.i6 [111 9 .Is [.z],111 203 .Lt [15e4]]]) [73 204 [],.v 203 (35 .dv 203 (.i 1))],.r (.l 203)]⟩
def f1011:Fn:=(296 [333 [.bk 28e1 205 [],33 201] [248 30 [.s Z24]],104 43e2 206 [],.v 207 (.a1 (33 200) 36e7),.v 208 (.a 207 42),.v 43 (.a1 (.a 207 38) (.l 208)),207 9e3 42 (35 .dv 208 (.i 1)),30 201 (.c 47e0),73 209 [9e3,.l 208,25e8],30 201 (.c 31e0),.lO (.lg [63 (267 200) .Gt [2e3],.bk (.a1 (33 200) 36e7) 205 []]) [104 (33 200) 50 []]])
def f1018:Fn:=(4 [164,207,208,43] [38e7,.bC (.bT (.i 69) [.lj,.lj] [17e0,.i 196]) [73 54 [17e0]] [.bC (.i6 [111 6 .lj [16e6],178 6 (.i 18)]) [73 210 [9e3,.l 208,25e8]] [.bC (.bT (.i 26) [.lj,.lj] [17e0,.i 34]) [73 211 [9e3,25e8]] [49 65 [174 [.k 3 [17e6,21e7]]] [49 66 [174 [.k 3 [17e6,16e7]]] [73 71 [9e3,25e8]]]]]]])
def f1032:Fn:=(4 [164,6] [220 212,.bC (.k 213 [17e0]) [174 [.k 214 [17e0,.l 212]]] [174 [.k 215 [17e0,28e3,.l 212]]]])
def f1039:Fn:=(4 [164,207,43] [38e7,49 32 [174 [.a1 (.a 207 196) 17e6]] [49 33 [142 (.a 207 196) 17e6 28e3] [49 34 [142 (.a 207 196) 17e6 (.a1 26e6 36e7)] [49 26 [104 26e6 50 []] [.v 216 (63 28e3 .gK [2e3]),220 139,220 96,174 [.ff (.l 216) (.l 96) 38e0]]]]]])
def f1046:Fn:=(4 [164,207,208,43] [38e7,.bC (178 6 (.g 48)) [104 (.a 207 197) 50 []] [49 12 [73 217 [9e3,17e6]] [49 13 [99 28e3 [.gK] [2e3] [73 217 [9e3,17e6]]] [.bC (.i6 [178 6 (.g 35),178 6 (.g 36)]) [73 49 [9e3,.l 208,25e8]] [.bC (178 6 (.g 37)) [73 218 [9e3,.l 208,25e8]] [.bC (178 6 (.g 47)) [207 9e3 42 (.a1 (.a 207 39) (.l 208))] [49 14 [73 219 [9e3,25e8]] [49 15 [73 220 [9e3]] [49 0 [248 59 [.g 221]] [60 6 [.oJ] [16e6] [73 222 [9e3,210 37e6 112 17e6,178 6 (.i 18)]] []]]]]]]]]]])
def f1081:Fn:=(4 [164,191,9] [.v 223 (.kI 26e6 [(163 .jm (193 26e6) 9)] []),30 132 (.d2 (163 .dv (.kI 26e6 [] [(.l 191)]) 223))])
def f1095:Fn:=(4 [164,207,126,224] [250 (.l 224) [73 225 [.a 207 195,193 (210 (324 112 25e4) 31 2e3)],104 (33 200) 50 []],73 202 [25e4]])
def f1107:Fn:=(4 [164,126] [99 (.bk 28e1 141 []) [.oJ] [.eY 43e2 141] [248 150 [.g 226]],.v 183 (324 112 25e4),.v 195 (.a5 .jm (193 26e6) (193 (.a1 (.a 183 31) 2e3))),.v 194 (214 (.kI 26e6 [(.l 195)] []) (.iD (.k 227 [.l 31]) (.n 31) (.eY (.a 183 183) 196) [])),30 132 (.d2 (.kI 26e6 [] [(.l 195)])),104 (33 200) 46 [.k 228 [25e4,.l 183,.bk 43e2 193 [25e4],.l 194,.l 195]],207 43e2 229 (.k 230 [.eY 43e2 229,.bk 28e1 141 []])])
def f1129:Fn:=⟨[164,105,170,141],[.z,.i 200],[26 105 105,26 170 170,26 141 141,30 161 2e3,30 229 2e3,30 199 2e3,30 231 (.oG [] [])]⟩
def f1136:Fn:=(296 [250 (.lg [63 (33 170) .oH [.z],63 (33 161) .oJ [33 170]]) [248 150 [.g 232]],30 161 (80 .dv (33 161) 1)])
def f1157:Fn:=(4 [164,126] [60 126 [.AR] [33 231] [142 (33 231) 25e4 (.k 233 [.eY (.eY (324 112 25e4) 183) 38])] [],.r (.a1 (33 231) 25e4)])
def f1206:Fn:=(4 [164,207,43] [38e7,60 6 [.lj] [.i 19] [73 222 [9e3,217 234 [9e3,25e8],178 6 (.i 19)]] [60 6 [.lj] [.i 36] [73 163 [9e3,25e8]] [60 6 [.lj] [.i 38] [73 235 [9e3,25e8]] [60 6 [.lj] [16e7] [73 236 [9e3,25e8]] [60 6 [.lj] [.i 210] [73 237 [9e3,25e8]] [60 6 [.Lt] [.i 64524] [73 51 [9e3,25e8]] [73 169 [9e3,25e8]]]]]]]])
def f1213:Fn:=(4 [164,207,43] [.v 119 (.eY (217 238 [9e3,65 43 2]) 119),220 42,99 5e9 [.oJ] [194 119] [248 59 [.g 239]],99 (114 119 5e9) [.Is] [.z] [248 59 [.g 240]],99 (.eY (324 112 (114 119 5e9)) 31) [.gK] [210 37e6 66 17e6] [248 59 [.g 241]],.r (114 119 5e9)])
def f1220:Fn:=(4 [164,126] [.v 183 (324 112 25e4),.bC (.bk (.l 183) 242 []) [.v 195 (.a5 .jm (193 26e6) (193 (.a1 (.a 183 31) 2e3))),.v 67 (.kI 26e6 [(.l 195)] []),30 132 (.d2 (.kI 26e6 [] [(.l 195)])),104 26e6 94 [217 243 [.l 183,.l 67]]] [73 244 [25e4]]])
def f1227:Fn:=(4 [164,183,67] [.v 245 (.eY 43e2 199),207 43e2 199 (.bk 28e1 141 []),.xh [.r (.bk (.l 183) 148 [.l 67])] [207 43e2 199 (.l 245)]])
def f1234:Fn:=(4 [164,207,43] [.v 163 (324 115 (210 37e6 115 17e6)),.bC (.bT (65 43 0) [.Eq] [.i 35]) [174 [.a 163 60]] [207 (.l 163) 60 28e3]])
def f1241:Fn:=(4 [164,207,43] [.v 77 (217 238 [9e3,17e6]),.bC (.bT (65 43 0) [.Eq] [.i 37]) [174 [.bk (.l 77) 246 [28e3]]] [220 60,221 77 247 [28e3,.l 60]]])
def f1248:Fn:=(4 [164,207,188] [.r (324 113 (210 37e6 113 (.l 188)))])
def f1255:Fn:=(4 [164,207] [.r (324 114 (210 37e6 114 2e3))])
def f1262:Fn:=(4 [164,207,43] [38e7,.v 236 (217 248 [9e3]),60 6 [.In] [.g 249] [.bx (.t [.n 31,.n 51,.n 133]) (.a1 (.g 249) 17e0),.v 54 (.bk (.l 236) 250 [214 28e3 (65 43 2),.l 51]),174 [189 133 1 (.k 251 [.l 54,223 (.i 8) 51,.k 65 [.l 31]]) (.l 54)]] [60 6 [.In] [.g 252] [220 54,221 236 105 [214 28e3 (65 43 2),.a1 (.a1 (.g 252) 17e0) 3e5,.l 54]] [49 63 [174 [.bk (.l 236) 55 []]] [174 [.bk (.l 236) 253 [28e3]]]]]])
def f1269:Fn:=(4 [164,207,43] [38e7,49 64521 [104 37e6 254 [17e6],.bj L] [],220 9,220 139,220 42,.v 236 (217 248 [9e3]),49 64520 [221 236 255 [5e9,210 37e6 117 17e6,38e0,15e4]] [49 64522 [221 236 256 [5e9,38e0,15e4]] [221 236 257 [5e9,38e0,15e4]]]])
def f1276:Fn:=(4 [164,207,43] [38e7,49 208 [174 [.z]] [49 209 [174 [.ff (63 28e3 .Is [.z]) 3e5 2e3]] [174 [210 37e6 112 17e6]]]])
def f1283:Fn:=(4 [164,207,43] [38e7,49 64525 [104 37e6 258 [17e6]] [49 64528 [174 [.bk (217 238 [9e3,17e6]) 55 []]] [49 64527 [220 9,174 [.bk (217 238 [9e3,17e6]) 253 [15e4,28e3]]] [73 259 [9e3,25e8]]]]])
def f1290:Fn:=(4 [164,207,43] [38e7,220 9,220 139,220 42,49 64524 [104 (217 238 [9e3,65 43 2]) 255 [5e9,210 37e6 116 17e6,38e0,15e4]] [49 64526 [.v 137 (217 238 [9e3,65 43 2]),104 (217 238 [9e3,17e6]) 256 [5e9,.l 137,38e0,15e4]] [104 (217 238 [9e3,17e6]) 257 [5e9,38e0,15e4]]]])
def f1309:Fn:=(4 [164,31,260,38] [26 31 31,26 196 260,26 38 38])
def gl:0e1:=[(20,355 "len"),(59,5 51),(118,.aa 19e6),(3,5 84),(175,5 459),(44,.aa 47e1),(56,.aa 27e0),(57,.aa (.aA "range")),(140,5 1420),(30,5 75),(35,1e8),(36,3e4),(37,10e8),(47,3e8),(48,21e3),(138,5 1413),(142,5 1434),(146,.aa 26e5),(150,5 63),(173,5 478),(174,44e6),(176,2e7),(180,3e9),(249,5 406),(252,5 419),(4,5 91),(32,5 355),(33,12e9),(34,5 384),(45,5 433),(62,.aa (.aA "int")),(65,5 391),(68,355 "all"),(69,5 466),(70,.aa 45e4),(82,5 1337),(97,355 "sum"),(143,5 1441),(144,5 1406),(145,5 1427),(147,5 1448),(178,5 447),(179,5 452),(185,5 471),(198,5 922),(221,.ag Z25),(226,14e5),(227,5 398),(228,5 957),(230,355 "max"),(232,.ag Z26),(233,5 440),(239,.ag xi),(240,.ag xj),(241,.ag xk),(251,5 105),(10,0 194),(11,0 192),(12,0 172),(13,0 69),(14,0 80),(15,0 167),(16,0 173),(17,5 325),(18,0 103),(19,0 121),(21,.X [5 119,5 126,5 133]),(22,5 332),(24,0 106),(25,0 124),(26,.X [5 140,5 147,5 154,5 168,5 175,5 182,5 189,5 196,5 203,5 210,5 217,5 224,5 231,5 238,5 245]),(27,0 70),(28,0 81),(61,355 "isinstance"),(63,.aa (.aA "bool")),(64,10e9),(81,355 "sorted"),(83,5 1344),(84,5 1358),(85,5 1351),(89,5 1363),(90,5 1370),(95,5 1377),(101,5 789),(102,5 1330),(106,5 373),(107,5 894),(110,5 852),(111,5 873),(121,5 1319),(123,5 1396),(124,5 754),(125,5 677),(127,5 586),(130,5 726),(152,5 1384),(153,5 1389),(154,5 1401),(156,5 1188),(158,5 1462),(159,5 1293),(160,5 1455),(165,.aa 22e7),(172,.aa 26e7),(213,5 339),(214,5 346),(215,5 353)]
def ct:D (I×al×D (I×I)):=[(38,true,[(166,35)]),(51,true,[(166,35)]),(63,true,[(166,35)]),(75,true,[(166,35)]),(373,false,[(166,370)]),(586,false,[(166,499),(55,506),(253,520),(177,527),(250,534),(105,541),(128,555),(257,562),(256,569),(255,576)]),(677,false,[(166,604),(55,611),(177,625),(246,632),(247,639),(253,646),(257,653),(256,660),(255,667)]),(726,false,[(166,695)]),(754,false,[(166,744),(242,751)]),(789,false,[(166,772),(242,779),(148,786)]),(852,false,[(166,807),(258,842),(254,849)]),(873,false,[(166,870)]),(894,false,[(166,891)]),(922,false,[(166,912)]),(957,false,[(166,940),(205,947)]),(1110,false,[(166,975),(205,982),(141,989),(151,1004),(204,1011),(209,1018),(54,1032),(211,1039),(210,1046),(225,1081),(222,1095),(244,1107)]),(1188,false,[(166,1129),(206,1136),(193,1157)]),(1293,false,[(71,1206),(234,1213),(202,1220),(243,1227),(163,1234),(235,1241),(238,1248),(248,1255),(236,1262),(51,1269),(237,1276),(169,1283),(259,1290),(166,975),(205,982),(141,989),(151,1004),(204,1011),(209,1018),(54,1032),(211,1039),(210,1046),(225,1081),(222,1095),(244,1107)]),(1319,false,[(166,1309)])]
def ft:D (I×Fn):=[(1018,f1018),(1206,f1206),(1262,f1262),(1255,f1255),(1248,f1248),(527,f527),(459,ac5),(534,f534),(541,f541),(447,ac3),(452,ac4),(105,acT),(1269,f1269),(1283,f1283),(1290,f1290),(625,f625),(632,f632),(639,f639),(646,f646),(653,f653),(660,f660),(667,f667),(506,f506),(520,f520),(562,f562),(569,f569),(576,f576),(611,f611),(1241,f1241),(1234,f1234),(1276,f1276),(1095,f1095),(1220,f1220),(1227,f1227),(786,f786),(779,f779),(751,f751),(471,ac7),(989,f989),(1046,f1046),(1039,f1039),(1213,f1213),(1011,f1011),(1136,f1136),(982,f982),(947,f947),(1448,f1448),(1406,f1406),(1337,ada),(1413,f1413),(1420,Qj),(1427,f1427),(1434,f1434),(1441,f1441),(1455,Qk),(1004,Kb),(84,f84),(91,f91),(391,ac0),(384,acZ),(478,ac8),(842,f842),(849,f849),(1107,f1107),(1157,f1157),(440,Qh),(940,f940),(912,f912),(433,ac2),(398,ac1),(140,acU),(325,acV),(332,acW),(339,acX),(353,acY),(466,ac6),(1330,ac9),(1344,adb),(1351,f1351),(1358,f1358),(1363,f1363),(1370,f1370),(1377,f1377),(1384,Qi),(1389,f1389),(1396,va),(1401,f1401),(1462,f1462),(1467,qx),(35,Ql),(370,f370),(499,f499),(555,f555),(604,f604),(695,f695),(744,f744),(772,f772),(807,f807),(870,f870),(891,f891),(975,f975),(1032,f1032),(1081,f1081),(1129,f1129),(1309,f1309)]
def tw:D (I×5e6):=[(406,[(0 40,.X [12e9,10e8,0e7]),(0 41,.X [10e9,0 8,0e7]),(0 44,.X [12e9,1e3,1e3]),(0 45,.X [12e9,1e3,0e7]),(0 46,.X [12e9,1e8,1e3]),(0 47,.X [12e9,1e8,0e7]),(0 48,.X [10e9,1e3,1e3]),(0 49,.X [10e9,1e3,0e7]),(0 50,.X [10e9,1e8,1e3]),(0 51,.X [10e9,1e8,0e7]),(0 52,.X [10e9,10e8,1e3]),(0 53,.X [10e9,10e8,0e7])]),(419,[(0 54,.X [12e9,10e8]),(0 55,.X [10e9,0 8]),(0 58,.X [12e9,1e3]),(0 59,.X [12e9,1e8]),(0 60,.X [10e9,1e3]),(0 61,.X [10e9,1e8]),(0 62,.X [10e9,10e8])])]
def nE:D (I×D I):=[(373,[166]),(586,[31,55,105,128,166,177,250,253,255,256,257]),(677,[55,166,177,246,247,253,255,256,257]),(726,[166,246,247]),(754,[166,242]),(789,[148,166,242]),(852,[126,166,254,258]),(873,[166]),(894,[166]),(922,[166]),(957,[166,205]),(1110,[49,54,71,141,151,166,202,204,205,209,210,211,217,218,219,220,222,225,244]),(1188,[166,193,206]),(1293,[49,51,54,71,141,151,163,166,169,202,204,205,209,210,211,217,218,219,220,222,225,234,235,236,237,238,243,244,248,259]),(1319,[166])]
def Kc:D I:=[31,38,39,40,42,58,60,66,72,105,112,113,114,115,116,117,119,126,132,141,155,161,162,167,168,169,170,181,182,183,184,186,187,189,190,191,192,195,196,197,199,200,201,229,231]
inductive oK where
 |fA (l:D V)
 |j6 (i:I)
inductive It where
 |ei (s:oK)
 |gL (s:oK)
 |aQ
 |dR (n:I)
inductive Tk where
 |x (e:apw)
 |t (e:apw)
 |ss (l:D S)
 |s (s:S)
 |aW (f:V) (as:D V)
 |gj (tg:Tg) (it:It) (k:I) (b:D S)
 |mt (e:apw) (tg:Tg) (j7:D apw) (it:It) (k:I) (j:I)
set_option genCtorIdx true in
inductive FO' where
 |next
 |bj (v:V)
set_option genCtorIdx true in
inductive A where
 |v (v:V)
 |b (b:al)
 |f (f:FO')
set_option genCtorIdx true in
inductive fj where
 |Y (a:A) (O:D aps) (T:D (I×V))
 |a7 (i:I) (O:D aps) (T:D (I×V))
inductive cp where
 |b (x:al)
 |v (x:V)
 |m (x:V)
 |ec (q:Tk->al) (r:Tk->D aps->D (I×V)->fj)
 |cu (q:Tk->al) (r:Tk->D aps->D (I×V)->fj)
 |q (x:al)
 |vs (l:D V)
 |by(l:D bd)
 |n (k:I)
abbrev Ob:=Prop
structure MS where
 O:D aps
 T:D (I×V)
 bE:D cp:=[]
set_option genCtorIdx true in
inductive R (α:Type)where
 |aS (a:α) (F:MS) (ob:D Ob)
 |a7 (i:I) (F:MS) (ob:D Ob)
 |no (why:I)
def fj.mY(o:fj)(bE:2e1)(ob:D Ob):2e9:=match o with
 | .Y a O T=> 20 a O T bE ob
 | .a7 i O T=> .a7 i (62 bE) ob
def V.AS:V->V
 | .y i _=> 14e8
 | .bo b _=> .bo b true
 |v=>v
def R.Y{α:Type}(a:α)(F:MS):3e3:= 123 a F
def R.ch{α:Type}(o:D Ob)(r:3e3):3e3:=match r with
 | .aS a F p=> .aS a F (o++p)
 | .a7 i F p=> .a7 i F (o++p)
 | .no w=> 18e9
def R.aE{α β:Type}(r:3e3)(f:α->MS->R β):R β:=match r with
 | .aS a F o=>(f a F).ch o
 | .a7 i F o=> .a7 i F o
 | .no w=> 18e9
def R.oM{α:Type}(r:3e3)(f:I->MS->3e3):3e3:=match r with
 | .a7 i F o=>(f i F).ch o
 |r=>r
def gN{α β:Type}(o:aq β)(w:I)(f:β->3e3):3e3:=match o with
 |G a=>f a
 |L=> 18e9
def gB{α:Type}(b:al)(w:I)(r:3e3):3e3:=match b with
 |true=>r
 |false=> 18e9
def g0{α β:Type}(l:D β)(w:I)(r:3e3):3e3:=match l with
 | []=>r
 |_::_=> 18e9
def g1{α β:Type}(l:D β)(w:I)(f:β->3e3):3e3:=match l with
 | []=> 18e9
 |a::l=>g0 l w (f a)
def gC{α β:Type}(l:D β)(w:I)(f:β->D β->3e3):3e3:=match l with
 | []=> 18e9
 |a::l=>f a l
def gA{α:Type}(a:A)(w:I)(f:V->3e3):3e3:=match a with
 | .f o=>(match o with
  | .bj v=>f v
  | .bz=>f 0e6)
 |_=> 18e9
def gX{α:Type}(a:A)(w:I)(r:3e3):3e3:=match a with
 | .f o=>(match o with
  | .bz=>r
  | .bj _=> 18e9)
 |_=> 18e9
def rK(a:A)(F:MS)(k:2e9):2e9:=match a with
 | .f o=>(match o with
  | .bz=>k
  | .bj v=> 7 (105 v))
 | .v v=> 7 (.v v)
 | .b b=> 7 (.b b)
def py(u:af):al:=I.bX u.ce 0
def V.i?(v:V):aq (K×al):=match v with
 | .y i t=>G (i,t)
 |_=>L
def V.o?(v:V):aq I:=match v with
 | .Z i=>G i
 |_=>L
def V.r?(v:V):12e4:=match v with
 | .aa u=>G u
 |_=>L
def V.y?(v:V):aq 4e9:=match v with
 | .cg u=>G u
 |_=>L
def V.t?(v:V):37e2:=match v with
 | .X u=>G u
 |_=>L
def V.l?(v:V):aq (0e0×al):=match v with
 | .ad u t=>G (u,t)
 |_=>L
def tx(v:V):al:=v.r?.fN py
def gI{α:Type}(v:V)(w:I)(f:K->al->3e3):3e3:=match v with
 | .y i t=>f i t
 |_=> 18e9
def gO{α:Type}(v:V)(w:I)(f:I->3e3):3e3:=match v with
 | .Z i=>f i
 |_=> 18e9
def vb{β:Type}(l:2e1)(d:β)(f:cp->2e1->β):β:=match l with
 | []=>d
 |q::o=>f q o
def Qm{β:Type}(l:2e1)(d:β)(f:al->2e1->β):β:=vb l d λq o=>match q with
 | .b x=>f x o
 |_=>d
def Qn{β:Type}(l:2e1)(d:β)(f:al->2e1->β):β:=vb l d λq o=>match q with
 | .q x=>f x o
 |_=>d
def Qo{β:Type}(l:2e1)(d:β)(f g:V->2e1->β):β:=vb l d λq o=>match q with
 | .v x=>f x o
 | .m x=>g x o
 |_=>d
def Kd{β:Type}(l:2e1)(d:β)(f:4e9->2e1->β):β:=vb l d λq o=>match q with
 | .by x=>f x o
 |_=>d
def pz(b t:al)(F:MS):R al:=cB t (Qm F.bE (7 b) λx o=> 20 x F.O F.T o [b=x]) (7 b)
def lk{α:Type}:34e9->I->29e6
 | [],_=>L
 |p::l,n=>match I.bX p.1 n with
  |true=>37e7
  |false=>lk l n
def fv{α:Type}:34e9->I->α->34e9
 | [],n,v=>[(n,v)]
 |p::l,n,v=>match I.bX p.1 n with
  |true=>(p.1,v)::l
  |false=>p::fv l n v
def mu:1e0->I->aps->1e0
 | [],_,_=>[]
 |o::l,n,x=>match n with
  |0=>x::l
  |n+1=>o::mu l n x
def MS.fv(F:MS)(n:I)(v:V):MS:=⟨F.O,Internal.fv F.T n v,F.bE⟩
def MS.cM(F:MS)(i:I)(o:aps):MS:=⟨mu F.O i o,F.T,F.bE⟩
def MS.jn(F:MS)(o:aps):3e2:= .Y (.Z F.O.U) ⟨F.O++[o],F.T,F.bE⟩
def gu(n:I)(t:al)(F:MS):26e1:=match t with
 |true=> .aS () F (288 n)
 |false=>match I.g4 n 16777216 with
  |true=> 40e5
  |false=> .no 5
def MS.mkR(F:MS)(fz:al)(l:0e0)(t:al):3e2:=match fz with
 |true=> 7 (.ad l t)
 |false=>F.jn (.ay l t)
def MS.ka(F:MS)(fz:al)(l:0e0)(t:al):3e2:=(gu l.U t F).aE λs F=>F.mkR fz l t
def MS.dL(F:MS)(i:I):aq aps:=22e1
def ll(O:1e0):V->34e3
 | .aa u=>cB (py u) (G (false,false)) L
 | .bo b t=>G (b,t)
 | .y i t=>G (decide (i≠0),t)
 | .ag _=>L
 | .cg b=>G (!b.jL,true)
 | .X _=>L
 | .ad l t=>G (!l.jL,t)
 | .eh _=>L
 | .Z _=>L
def aps.li(o:aps):37e2:=match o with
 | .ay l _=>G l
 |_=>L
def aps.sq(o:aps):37e2:=match o with
 | .ay l _=>G l
 | .au l=>G l.er
 |_=>L
def aps.di(o:aps):aq 5e6:=match o with
 | .bv l=>G l
 |_=>L
def xo(os:1e0)(v:V):37e2:=(v.l?.aj (·.1)).or (v.o?.cq λi=>os[i]?.cq aps.li)
def h8(f:V->aq cj):0e0->aq (D cj)
 | []=>G []
 |v::l=>(f v).cq λd=>(h8 f l).aj (d:: ·)
def eN:I->1e0->V->aq cj
 |0,_,_=>L
 |n+1,os,v=>match v with
  | .aa u=>cB (py u) (G .L) L
  | .bo b _=>G (.bo b)
  | .y i _=>G (.y i)
  | .ag s=>cB (cj.rL s) (G (.ag s)) L
  | .cg _=>L
  | .eh _=>L
  | .X l=>(110 n os l).aj .qy
  | .ad l _=>(110 n os l).aj .ay
  | .Z i=>(os[i]?.cq aps.sq).cq λl=>(110 n os l).aj .ay
def qz:I->1e0->V->al
 |0,_,_=>true
 |n+1,os,v=>match v with
  | .bo _ t=>t
  | .y _ t=>t
  | .X l=>l.fN (qz n os)
  | .ad l t=>t||l.fN (qz n os)
  | .Z i=>match os[i]? with
   |G (.ay l t)=>t||l.fN (qz n os)
   |G _=>true
   |L=>false
  |_=>false
def eq1(a b:V):aq al:=(a.r?.cq λu=>b.r?.cq λw=>cB (py u&&py w) (G true) L).or (a.y?.cq λx=>b.y?.aj λapp=>274 x app)
def eqB:0e0->0e0->aq al
 | [],m=>(match m with
  | []=>G true
  |_::_=>L)
 |a::l,m=>(match m with
  | []=>L
  |b::m=>(eq1 a b).cq λc=>(eqB l m).aj λd=>c&&d)
def pA(os:1e0)(a b:V):34e3:=(eN 12 os a).cq λx=>(eN 12 os b).aj λapp=>(cj.eqv x app,qz 12 os a||qz 12 os b)
def Qp(os:1e0)(a b:V):34e3:=a.o?.cq λi=>b.o?.cq λj=>141 i j L ((os[i]?.cq aps.li).cq λl=>(os[j]?.cq aps.li).cq λm=>(eqB l m).aj λc=>(c,true))
def vEq(os:1e0)(a b:V):34e3:=(pA os a b).or (Qp os a b)
def mZ:V->V->al
 | .y i _,.y j _=>274 i j
 | .ag x,.ag app=>274 x app
 |_,_=>false
def lkV:5e6->V->9e6
 | [],_=>L
 |p::l,k=>match mZ p.1 k with
  |true=>37e7
  |false=>lkV l k
def nH:V->al
 | .y _ _=>true
 |_=>false
def rM:V->al
 | .ag _=>true
 |_=>false
def nI(l:5e6)(k:V):al:=match k with
 | .y _ _=>l.dI λp=>nH p.1
 | .ag _=>l.dI λp=>rM p.1
 |_=>false
def qA(l:5e6)(k:V):aq 9e6:=match nI l k with
 |true=>G (lkV l k)
 |false=>L
def iS:5e6->V->V->5e6
 | [],k,v=>[(k,v)]
 |p::l,k,v=>match mZ p.1 k with
  |true=>(p.1,v)::l
  |false=>p::iS l k v
def dM{α:Type}(l:8e4)(n:K):8e4:=(287 l).xp
def xq(i:K)(n:I):I:=kL n i
def vc(lo:8e5)(n:I):I:=match lo with
 |L=>0
 |G i=>xq i n
def xr(s:8e5)(n:I):I:=match s with
 |L=>n
 |G i=>xq i n
def bD{α:Type}(l:8e4)(lo s:8e5):8e4:=(l.fh (vc lo l.U)).fG (xr s l.U-vc lo l.U)
def bV{α:Type}(l:8e4)(lo s:8e5)(m:8e4):8e4:=l.fG (vc lo l.U)++m++l.fh (jo (vc lo l.U) (xr s l.U))
def oN(b t:al)(F:MS):26e1:=match t with
 |true=> .aS () F [b=true]
 |false=>match b with
  |true=> 40e5
  |false=> .no 7
def jM(n:K):al:=bJ (-9223372036854775808<=n)&&bJ (n<9223372036854775808)
def xt(b:4e9)(n:K):al:=!b.jL&&bJ (-1048576<=n)&&bJ (n<=1048576)&&I.g4 b.U 16
def a8(op:rI)(a b:K):al:=match op with
 | .f4=>decide (a.ty<2^64)||bJ (b.ty<2^64)
 | .cb=>decide (b≠0)&&bJ (b.ty<2^64)
 | .bn=>decide (b≠0)
 | .kK=>335 0 b&&bJ (b<=1000)&&bJ (a.ty<2^64)
 | .px=>335 0 b&&bJ (b<=1000000)&&bJ (a.ty<2^64)
 | .xn=>335 0 b
 |_=>true
def Qq(op:rI)(a b:K)(t:al)(F:MS):26e1:=match op with
 | .dv=> 40e5
 | .jm=> 40e5
 | .xm=> 40e5
 | .BitOr=> 40e5
 |_=>match t with
  |true=> .aS () F [a8 op a b=true]
  |false=>match a8 op a b with
   |true=> 40e5
   |false=> .no 6
def binI(op:rI)(a:K)(b:K):8e5:=match op with
 | .dv=>G (a+b)
 | .jm=>G (a-b)
 | .f4=>G (a*b)
 | .cb=>G (a.aK b)
 | .bn=>G (a.ah b)
 | .kK=>G (a^b.aI)
 | .px=>G (a*2^b.aI)
 | .xn=>G (a.aK (2^b.aI))
 | .xm=>G (Builtin.i7 a b)
 | .BitOr=>G (Builtin.Ke a b)
 |_=>L
def Kf(fz:al)(op:rI)(a b:V)(F:MS):3e2:=gB (304 .dv) 13 (gN (xo F.O a) 13 λl=>gN (xo F.O b) 13 λm=>222 (l++m) true)
def Kg(fz:al)(op:rI)(a b:V)(F:MS):3e2:=match a with
 | .y i t=>gI b 13 λj u=>gN (binI op i j) 10 λk=>(Qq op i j (t||u) F).aE λs F=> 7 (.y k (t||u))
 | .cg x=>gB (304 .f4) 11 (gI b 13 λn s=>(oN (xt x n) true F).aE λs F=> 7 (.cg (dM x n)))
 | .ad l t=>match op with
  | .f4=>gI b 13 λn u=>(oN (jM n) (t||u) F).aE λs F=>222 (dM l n) (t||u)
  |op=>Kf fz op (.ad l t) b F
 |a=>Kf fz op a b F
def Qr(a:I):aq 5e6:=lk tw a
def lP:0e0->aq (D K)
 | []=>G []
 | .y i _::l=>(lP l).aj (i:: ·)
 |_::_=>L
def inI(a:V)(l:D K):34e3:=a.i?.aj λp=>(l.fN (· ==p.1),p.2)
def vd(u:af):aq 5e6:=match u with
 | .N d=>Qr d
 |_=>L
def AT(F:MS)(v:V):aq 5e6:=(v.r?.cq vd).or (v.o?.cq λi=>(18e7).cq aps.di)
def xu(a b:V)(F:MS):34e3:=(b.t?.cq λl=>(lP l).cq (inI a)).or ((AT F b).cq λl=>(qA l a).aj λr=>(r.iq,false))
def xw(x:34e3):34e3:=x.aj λp=>(!p.1,p.2)
def i2(f:K->K->al)(a b:V):34e3:=a.i?.cq λp=>b.i?.aj λq=>(f p.1 q.1,p.2||q.2)
def AU(b a:V)(c:al):34e3:=cB (tx b) (G (tx a !=c,false)) L
def lQ(op:jl)(a b:V)(F:MS):34e3:=match op with
 | .Eq=>vEq F.O a b
 | .gK=>xw (pA F.O a b)
 | .Is=>AU b a false
 | .oH=>AU b a true
 | .In=>xu a b F
 | .AR=>xw (xu a b F)
 | .Lt=>i2 (λi j=>decide (i<j)) a b
 | .lj=>i2 (λi j=>335 i j) a b
 | .Gt=>i2 (λi j=>decide (j<i)) a b
 | .oJ=>i2 (λi j=>335 j i) a b
def xx(op:jl)(a b:V)(F:MS):3e2:=Qn F.bE (gN (lQ op a b F) 95 λp=> 7 (.bo p.1 p.2)) λc o=> 20 (.bo c false) F.O F.T o [∃t,lQ op a b F=G (c,t)]
def tz(x:9e6)(t:al)(F:MS):3e2:=cB t (Qo F.bE (gN x 21 λv=> 21e9) (λapp o=> 20 app F.O F.T o [x=G app]) λapp o=> 20 app F.O F.T o [x.aj V.AS=G app]) (gN x 20 λv=> 21e9)
def dm(l:0e0)(i:K):9e6:=match i with
 | .cf k=>l[k]?
 | .rN k=>match I.g4 (k+1) l.U with
  |true=>l[l.U-(k+1)]?
  |false=>L
def itemO(o:aps)(i:V)(F:MS):3e2:=match o with
 | .ay l u=>gI i 23 λk t=>tz (dm l k) (t||u) F
 | .au l=>gI i 24 λk s=>gB (decide (k= -1)) 24 (tz l.pB false F)
 | .bv l=>gN (qA l i) 28 λr=>tz r false F
 |_=> .no 25
def xy(a i:V)(F:MS):3e2:=match a with
 | .X l=>gI i 22 λk t=>tz (dm l k) t F
 | .ad l u=>gI i 22 λk t=>tz (dm l k) (t||u) F
 | .Z o=>gN (F.dL o) 25 λo=>itemO o i F
 | .aa u=>gN (vd u) 26 λl=>gN (qA l i) 29 λr=>tz r false F
 |_=> .no 27
def ve(v:9e6):aq (8e5×al):=match v with
 |L=>G (L,false)
 |G (.y i t)=>G (G i,t)
 |_=>L
def AV(lo s:9e6):aq (8e5×8e5×al):=match ve lo with
 |G (a,t)=>(match ve s with
  |G (b,u)=>G (a,b,t||u)
  |L=>L)
 |L=>L
def gS{α:Type}(lo s:9e6)(w:I)(f:8e5->8e5->al->3e3):3e3:=gN (AV lo s) w λp=>f p.1 p.2.1 p.2.2
def sliceO(fz:al)(o:aps)(lo s:9e6)(F:MS):3e2:=match o with
 | .ay l t=>gS lo s 31 λx app u=>222 (176 l) (t||u)
 | .au l=>gS lo s 32 λx app h=>cB fz (7 (6 (176 l.er))) (F.jn (.au (176 l.er).er))
 | .eF b=>gS lo s 33 λx app h=>Kd F.bE (7 (.eh (176 b))) λz o=> 20 (.eh z) F.O F.T o [176 b=z]
 |_=> .no 34
def tA(fz:al)(a:V)(lo s:9e6)(F:MS):3e2:=match a with
 | .cg b=>gS lo s 30 λx app h=> 7 (.cg (176 b))
 | .ad l t=>gS lo s 30 λx app u=>222 (176 l) (t||u)
 | .Z o=>gN (F.dL o) 34 λo=>sliceO fz o lo s F
 |_=> .no 35
def bA(b:bd):V:= 2 b.aI
def aps.oct(o:aps):37e2:=match o with
 | .eF b=>G (b.aj bA)
 |_=>L
def aps.fl(o:aps):al:=match o with
 | .ay _ t=>t
 |_=>true
def lR(a:V)(F:MS):37e2:=match a with
 | .ad l _=>G l
 | .Z o=>(F.dL o).cq aps.sq
 |_=>L
def vf(a:V)(F:MS):37e2:=match a with
 | .cg b=>G (b.aj bA)
 | .Z o=>(F.dL o).cq aps.oct
 |_=>L
def Kh(a:V)(F:MS):37e2:=match a with
 | .Z o=>((F.dL o).cq aps.di).aj λl=>l.aj (·.1)
 |_=>L
def rP(a:V)(F:MS):al:=match a with
 | .Z o=>(F.dL o).ak true aps.fl
 | .X _=>false
 | .ad _ t=>t
 |_=>true
def vg(a:K):D K->D K
 | []=>[a]
 |b::l=>if a<=b then a::b::l else b::vg a l
def xz(l:D K):D K:=l.foldr vg []
def lenO(o:aps)(F:MS):3e2:=match o with
 | .ay l t=> 7 (.y l.U t)
 | .au l=> 7 (2 l.U)
 | .eF b=> 7 (2 b.U)
 |_=> .no 40
def Qs(a:V)(F:MS):3e2:=match a with
 | .cg b=> 7 (2 b.U)
 | .X l=> 7 (0 l.U)
 | .ad l t=> 7 (.y l.U t)
 | .eh b=> 7 (2 b.U)
 | .Z i=>gN 18e7 40 λo=>lenO o F
 |_=> .no 41
def AX(fz:al)(n:fS)(as:0e0)(F:MS):3e2:=
 cB (n== "len") (g1 as 46 λa=>Qs a F) <|
 cB (n== "sum") (g1 as 46 λa=>gN ((lR a F).cq lP) 42 λl=> 7 (2 l.lc)) <|
 cB (n== "max") (gC as 46 λa as=>g1 as 46 λb=>gI a 43 λi t=>gI b 43 λj u=> 7 (.y (jo i j) (t||u))) <|
 cB (n== "all") (g1 as 46 λa=>gN (lR a F) 44 λl=>g0 l 44 (7 47e0)) <|
 cB (n== "sorted") (g1 as 46 λa=>gN ((Kh a F).cq lP) 45 λl=>gB (I.jN l.U 64) 47 (gB fz 48 (7 (8 ((xz l).aj λi=> 6e5))))) <|
 .no 46
def vh(fz:al)(n:fS)(as:0e0)(F:MS):3e2:=
 cB (n== "list") (g1 as 55 λa=>(lR a F).ak (gN (vf a F) 50 λl=>gB fz 56 (7 (6 l))) λl=>222 l (rP a F)) <|
 cB (n== "tuple") (g1 as 55 λa=>gN (lR a F) 51 λl=> 7 (.X l)) <|
 cB (n== "bytes") (g1 as 55 λa=>match a with
  | .y n _=>(oN (decide (0<=n/\n<=16777216)) true F).aE λs F=> 7 (.cg (287 0))
  |a=>gN ((lR a F).cq lP) 52 λl=>(oN (l.dI (291 (i<256))) true F).aE λs F=> 7 (.cg (264 48e1))) <|
 cB (n== "bytearray") (g1 as 55 λa=>gI a 53 λn s=>(oN (decide (0<=n/\n<=16777216)) true F).aE λs F=>F.jn (.eF (287 0))) <|
 cB (n== "int") (g1 as 55 λa=>match a with
  | .bo b t=> 7 (.y (if b then 1 else 0) t)
  |_=> .no 54) <|
 .no 55
def kb(C n:I):al:=Kc.fN (λk=>I.bX k n)&&((lk nE C).fN λl=>!l.fN λk=>I.bX k n)
def qB(F:MS)(o:V)(n:I)(v:V):26e1:=match o with
 | .Z i=>gN 18e7 60 λo=>match o with
  | .bu C d=>gB (I.g4 d.U 900&&kb C n) 59 (162 () i (112 (fv d n v)))
  |_=> .no 60
 |_=> .no 61
def putO(F:MS)(k:I)(o:aps)(i v:V):26e1:=match o with
 | .ay l u=>gI i 63 λj t=>(oN (decide (0<=j/\j<l.U)) (t||u) F).aE λs F=> 162 () k (.ay (l.cM j.aI v) (t||u))
 | .bv l=>gB (nI l i) 59 (gB (I.g4 l.U 900) 59 (162 () k (.bv (iS l i v))))
 |_=> .no 63
def Ki(F:MS)(o i v:V):26e1:=match o with
 | .Z k=>gN (F.dL k) 63 λo=>putO F k o i v
 |_=> .no 64
def putSO(F:MS)(k:I)(o:aps)(lo h:9e6)(v:V):26e1:=match o with
 | .ay l t=>gS lo h 65 λx app u=>match v with
  | .ad m t'=>(gu (l.U+m.U) (t||u||t') F).aE λs F=> 162 () k (.ay (bV l x app m) (t||u||t'))
  |_=> .no 65
 | .eF b=>gS lo h 67 λx app s=>match v with
  | .cg m=>(gu (b.U+m.U) true F).aE λs F=> 162 () k (.eF (bV b x app m))
  | .eh m=>(gu (b.U+m.U) true F).aE λs F=> 162 () k (.eF (bV b x app m))
  |_=> .no 67
 |_=> .no 68
def xA(F:MS)(o:V)(lo s:9e6)(v:V):26e1:=match o with
 | .Z k=>gN (F.dL k) 68 λo=>putSO F k o lo s v
 |_=> .no 69
def methL(i:I)(l:0e0)(t:al)(n:I)(as:0e0)(F:MS):3e2:=
 bif I.bX n 46 then g1 as 72 λv=>(gu (l.U+1) t F).aE λs F=> 276 (.ay (l++[v]) t)
 else bif I.bX n 94 then g1 as 72 λv=>gN (lR v F) 70 λm=>(gu (l++m).U (t||rP v F) F).aE λs F=> 276 (.ay (l++m) (t||rP v F))
 else 251 n 50 72 (g0 as 72 (gC l.er 71 λv r=> 162 v i (.ay r.er t)))
def methK(i:I)(l:0e0)(n:I)(as:0e0)(F:MS):3e2:=
 bif I.bX n 46 then g1 as 75 λv=>(gu (l.U+1) true F).aE λs F=> 276 (.au (v::l))
 else bif I.bX n 94 then g1 as 75 λv=>gN (lR v F) 73 λm=>(gu (m.er++l).U true F).aE λs F=> 276 (.au (m.er++l))
 else 251 n 50 75 (g0 as 75 (gC l 74 λv r=> 162 v i (.au r)))
def methD(i:I)(l:5e6)(v:V)(F:MS):3e2:=match v with
 | .Z j=>gN (F.dL j) 76 λo=>match o with
  | .bv m=>gB (I.g4 (l.U+m.U) 900) 80 (gB (I.bX i j).oF 80 (gB (m.dI λp=>nI l p.1) 80 (gB (m.dI λp=>nI m p.1) 80 (276 (.bv 46e1)))))
  |_=> .no 76
 |_=> .no 77
def methY(i:I)(b:4e9)(v:V)(F:MS):3e2:=match v with
 | .cg m=>(gu (b.U+m.U) true F).aE λs F=> 276 (.eF (b++m))
 |_=> .no 78
def xB(i:I)(o:aps)(n:I)(as:0e0)(F:MS):3e2:=match o with
 | .ay l t=>methL i l t n as F
 | .au l=>methK i l n as F
 | .bv l=>251 n 75 77 (g1 as 77 λv=>methD i l v F)
 | .eF b=>251 n 94 78 (g1 as 78 λv=>methY i b v F)
 |_=> .no 79
def nJ(C:I):aq (al×D (I×I)):=lk ct C
def Kj(a:I):aq Fn:=lk ft a
def xC(C:I):al:=(nJ C).fN (·.1)
def srcOf(a:V)(F:MS):aq oK:=match a with
 | .X l=>G (.fA l)
 | .ad l _=>G (.fA l)
 | .Z i=>((18e7).cq aps.li).aj λs=> .j6 i
 |_=>L
def Qt(a:V)(F:MS):aq oK:=match a with
 | .ad l _=>G (.fA l)
 | .eh b=>G (.fA (b.aj bA))
 | .Z i=>((18e7).cq aps.li).aj λs=> .j6 i
 |_=>L
def oK.aO(F:MS):oK->37e2
 | .fA l=>G l
 | .j6 i=>(18e7).cq aps.li
def oK.at(F:MS)(s:oK)(k:I):aq 9e6:=(s.aO F).aj λl=>l[k]?
def It.at(F:MS)(s:It)(k:I):aq 9e6:=match s with
 | .ei s=>s.at F k
 | .gL s=>(s.at F k).aj λr=>r.aj λv=> .X [0 k,v]
 | .aQ=>G L
 | .dR n=>G (cB (I.jN k n) (G (0 k)) L)
abbrev Ih:=Tk->MS->2e9
def ci(ih:Ih)(e:apw)(F:MS):3e2:=(ih (.x e) F).aE λa F=>match a with
 | .v v=> 21e9
 |_=> .no 90
def mw(ih:Ih)(e:apw)(F:MS):R al:=(ih (.t e) F).aE λa F=>match a with
 | .b b=> 7 b
 |_=> .no 91
def kc(ih:Ih):23e6->MS->R 0e0
 | [],F=> 7 []
 |e::l,F=>131 13e9 ((kc ih l F).aE (316 (v::vs)))
def lT(ih:Ih)(e:aq apw)(F:MS):R 9e6:=match e with
 |L=> 7 L
 |G e=>13e9 (395 2e5)
def AY(ih:Ih):D (apw×apw)->MS->R 5e6
 | [],F=> 7 []
 |p::l,F=>(75 p.1) λk F=>131 (75 p.2) ((AY ih l F).aE (316 ((k,v)::vs)))
def mx(r:3e2):2e9:=r.aE (395 (.v v))
def m0(r:26e1):2e9:=r.aE λs F=> 24e8
def xD(ih:Ih)(s:al):23e6->MS->3e2
 | [],_=> .no 92
 | [e],F=>ci ih e F
 |e::l,F=>131 13e9 (gN (ll F.O v) 93 λp=>(pz p.1 p.2 F).aE λb F=>cB (b==s) (xD ih s l F) 21e9)
def pC(ih:Ih)(s:al):23e6->MS->R al
 | [],F=> 7 s
 |e::l,F=>(mw ih e F).aE λb F=>cB (b==s) (pC ih s l F) (7 b)
def pD(ih:Ih)(a:V):D 40e2->MS->3e2
 | [],_=> .no 94
 | [p],F=>(75 p.2) λb F=>xx p.1 a b F
 |p::l,F=>(75 p.2) λb F=>gN (lQ p.1 a b F) 96 λq=>(pz q.1 q.2 F).aE λc F=>cB c (pD ih b l F) (7 31e0)
def pE(F:MS)(s:Tg)(v:V):26e1:=match s with
 | .n k=> .Y () (F.fv k v)
 | .t l=>match v with
  | .X vs=>251 vs.U l.U 97 (.Y () ((l.fw vs).iT (λF p=>F.fv p.1 p.2) F))
  |_=> .no 98
def qC(n:I):0e1->0e1
 | []=>[]
 |p::l=>match I.bX p.1 n with
  |true=>qC n l
  |false=>p::qC n l
def xE(s:Tg)(T:0e1):0e1:=match s with
 | .n k=>qC k T
 | .t l=>l.iT (λT k=>qC k T) T
def apw.g?(x:apw):aq I:=match x with
 | .g k=>G k
 |_=>L
def apw.xF(x:apw):aq (apw×23e6):=match x with
 | .aW f es=>G (f,es)
 |_=>L
def AZ(e:apw):aq (apw ⊕ apw ⊕ apw×apw):=e.xF.cq λp=>p.1.g?.cq λn=>match p.2 with
 | []=>L
 |a::es=>match es with
  | []=>141 n 44 (G (.a2 a)) (141 n 57 (G (.aD (.a2 a))) L)
  |b::es=>match es with
   | []=>141 n 70 (G (79 (a,b))) L
   |_::_=>L
def Qu(v:V):al:=match v with
 | .X l=>l.jL
 |_=>false
def tB(ih:Ih)(e:apw)(F:MS):R It:=match AZ e with
 |G (.a2 a)=>30e3 λv F=>gN (Qt v F) 100 λl=> 7 (.gL l)
 |G (.aD (.a2 a))=>30e3 λv F=>gI v 101 λn t=>(oN (decide (0<=n/\n<=16777216)) t F).aE λs F=> 7 (.dR n.aI)
 |G (.aD (.aD (a,b)))=>30e3 λv F=>(75 b) λw F=>gB (Qu v) 102 (gN (xo F.O w) 102 λs=> 7 .aQ)
 |L=>131 13e9 (gN (srcOf v F) 103 λl=> 7 (.ei l))
def h9{α:Type}(r:3e3):3e3:=match r with
 | .a7 _ _ _=> .no 149
 |r=>r
def oP(it:It)(s:Tg):al:=match it,s with
 | .gL _,.n _=>false
 |_,_=>true
def qD(f:apq->V->MS->26e1):D apq->0e0->MS->26e1
 |t::l,v::vs,F=>(f t v F).aE λs F=>qD f l vs F
 |_,_,F=> 40e5
def jO(ih:Ih):I->apq->V->MS->26e1
 |0,_,_,_=> .no 104
 |n+1,t,v,F=>match t with
  | .n k=> .Y () (F.fv k v)
  | .a o a=>(75 o) λo F=>qB F o a v
  | .s o i=>(75 o) λo F=>(75 i) λi F=>Ki F o i v
  | .sl o lo s=>(75 o) λo F=>(lT ih lo F).aE λlo F=>(lT ih s F).aE λs F=>xA F o lo s v
  | .t l=>match v with
   | .X vs=>251 vs.U l.U 105 (qD (jO ih n) l vs F)
   |_=> .no 106
def apw.l?(x:apw):aq I:=match x with
 | .l k=>G k
 |_=>L
def apw.c?(x:apw):9e6:=match x with
 | .c k=>G k
 |_=>L
def apw.tup?(x:apw):aq 23e6:=match x with
 | .X k=>G k
 |_=>L
def apw.at?(x:apw):aq (apw×I):=match x with
 | .eY k n=>G (k,n)
 |_=>L
def S.Qv(s:S):aq apw:=match s with
 | .bj e=>e
 |_=>L
def V.s?(v:V):aq am:=match v with
 | .ag s=>G s
 |_=>L
def hand1(h:apw×aq I×D S):aq (I×al×am):=h.1.g?.cq λk=>h.2.1.cq λn=>h.2.2.pB.cq λs=>s.Qv.cq λr=>r.tup?.cq λl=>l.pB.cq λa=>a.c?.cq λv=>v.s?.cq λz=>l.mj.pB.cq λb=>b.at?.cq λp=>p.1.l?.cq λm=>
 cB (I.bX p.2 58) (G (k,I.bX n m,z)) L
def A0{α:Type}(v:V)(w:I)(f:I->3e3):3e3:=match v with
 | .aa u=>(match u with
  | .N a=>f a
  |_=> 18e9)
 |_=> 18e9
def hand(C:aH)(v:V):D (apw×aq I×D S)->MS->2e9
 | [],_=> .no 137
 |h::hs,F=>gN (hand1 h) 138 λq=>gN (lk gl q.1) 135 λu=>A0 u 135 λa=>gB (q.2.1&&(!I.bX a 38&&xC a)) 136 (141 a C (7 (306 [.ag q.2.2,v])) (hand C v hs F))
def notBi(u:af):al:=match u with
 | .bI _=>false
 |_=>true
def Qw(v:V):al:=match v with
 | .aa u=>notBi u
 |_=>true
def Kk(x:9e6)(F:MS):3e2:=gN x 20 λv=>gB (Qw v) 152 21e9
def rQ(ih:Ih)(f:V)(as:0e0)(F:MS):3e2:=(ih (.aW f as) F).aE λa F=>match a with
 | .v v=> 21e9
 |_=> .no 118
def xG(ih:Ih)(fz:al)(f:V)(as:0e0)(F:MS):3e2:=match f with
 | .aa u=>(match u with
  | .bI n=>AX fz n as F
  | .aA n=>vh fz n as F
  |u=>rQ ih 29e8 as F)
 |f=>rQ ih f as F
def A1(n:I):aq fS:=141 n 46 (G "list.append") (141 n 94 (G "list.extend") (141 n 50 (G "list.pop") L))
def Qx(n:I):aq fS:=141 n 75 (G "dict.update") L
def Qy(n:I):aq fS:=141 n 94 (G "bytearray.extend") L
def rR(o:aps)(n:I):aq fS:=match o with
 | .ay _ _=>A1 n
 | .au _=>A1 n
 | .bv _=>Qx n
 | .eF _=>Qy n
 |_=>L
def xH(C n:I):aq I:=(nJ C).cq λq=>cB q.1 L (lk q.2 n)
def Qz(o:aps)(n:I)(F:MS):3e2:=match o with
 | .bu C d=>gB (kb C n) 146 (Kk (lk d n) F)
 |_=> .no 113
def Kl(ih:Ih)(fz:al)(i:I)(ob:aps)(n:I)(as:23e6)(F:MS):3e2:=match ob with
 | .bu C d=>cB (kb C n) ((Kk (lk d n) F).aE λf F=>(kc ih as F).aE λas F=>xG ih fz f as F)
   (gN (xH C n) 121 λf=>gB (lk d n).QA 121 ((kc ih as F).aE λas F=>xG ih fz (5 f) (15e9::as) F))
 |ob=>gB (rR ob n).iq 119 ((kc ih as F).aE λas F=>gN 18e7 124 λs=>251 ob.ce s.ce 120 (xB i s n as F))
def tC(ih:Ih)(fz:al)(e:apw)(F:MS):3e2:=match e with
 | .d2 _=> .no 110
 | .c v=> 21e9
 | .l n=>gN (lk F.T n) 1000 λv=> 21e9
 | .eU n=>gN (lk F.T n) 1001 λv=> 21e9
 | .oD n=>gN (lk F.T n) 1002 λv=> 21e9
 | .g n=>gN (lk gl n) 112 λv=> 21e9
 | .eY e n=>13e9 λo F=>gO o 114 λi=>gN 18e7 113 λob=>Qz ob n F
 | .a1 e i=>13e9 λo F=>(75 i) λi F=>xy o i F
 | .kI e lo h=>13e9 λo F=>(lT ih lo.pB F).aE λlo F=>(lT ih h.pB F).aE λh F=>tA fz o lo h F
 | .a5 op a b=>30e3 λa F=>(75 b) λb F=>Kg fz op a b F
 | .oF e=>13e9 λv F=>gN (ll F.O v) 115 λp=> 7 (.bo (!p.1) p.2)
 | .gZ e=>13e9 λv F=>gI v 116 λi t=> 7 (.y (-i) t)
 | .lg l=>xD ih true l F
 | .i6 l=>xD ih false l F
 | .bT a o l=>30e3 λa F=>pD ih a (o.fw l) F
 | .ff c a b=>(mw ih c F).aE λc F=>cB c (ci ih a F) (ci ih b F)
 | .X l=>(kc ih l F).aE λvs F=> 7 (.X vs)
 | .ad l=>(kc ih l F).aE λvs F=>222 vs false
 | .oG k v=>(AY ih (k.fw v) F).aE λvs F=>gB (I.g4 vs.U 900&&vs.dI (λp=>nI vs p.1)) 155 (F.jn (.bv (vs.iT 50e7 [])))
 | .iD e s it x=>(tB ih it F).aE λvs F=>gB (oP vs s) 157 ((h9 (ih (.mt e s x vs 0 F.O.U) ⟨F.O++[2e0],xE s F.T,F.bE⟩)).aE λa bQ=>gX a 117 (.Y (.Z F.O.U) ⟨bQ.O,F.T,bQ.bE⟩))
 | .aW f as=>(75 f) λf F=>(kc ih as F).aE λas F=>xG ih fz f as F
 | .bk o n as=>(75 o) λo F=>gO o 125 λi=>gN 18e7 123 λob=>Kl ih fz i ob n as F
 | .lam=> .no 126
def rS(ih:Ih)(e:apw)(F:MS):3e2:=match e with
 | .d2 e=>tC ih false e F
 |e=>tC ih true e F
def Km(ih:Ih)(e:apw)(F:MS):R al:=match e with
 | .oF e=>(mw ih e F).aE λb F=> 7 (!b)
 | .lg l=>pC ih true l F
 | .i6 l=>pC ih false l F
 | .ff c a b=>(mw ih c F).aE λc F=>cB c (mw ih a F) (mw ih b F)
 |e=>131 (rS ih e F).aE (gN (ll F.O v) 127 λp=>pz p.1 p.2 F)
def xI:apw->V
 | .c v=>v
 |_=> 0e6
def Fn.jp(fn:Fn)(n:I):0e0:=(fn.ds.fh (n+fn.ds.U-fn.ps.U)).aj xI
def refO(u:af):aq I:=match u with
 | .N C=>G C
 |_=>L
def qE(b:D S):aq (I×apw):=cB b.mj.jL (b.pB.cq λs=>s.Qv.cq λr=>r.xF.cq λp=>p.1.g?.cq λk=>p.2.pB.cq λe=>cB (p.2.mj.pB.fN λz=>I.bX z.ce 21) ((19 gl).cq λv=>v.r?.cq λu=>(refO u).aj λC=>(C,e)) L) L
def Kn(ih:Ih)(e:apw)(C:I)(as:0e0)(F:MS):3e2:=gC as 155 λk as=>gC as 155 λn as=>g0 as 155
 ((h9 (ci ih e (219 [(31,k),(100,n)]))).aE λv bQ=>(h9 (ih (22 C [v,0e6]) bQ)).aE λs s=>gN (lk bQ.T 31) 126 λk=>gN (lk bQ.T 100) 126 λn=>
  .Y (.Z bQ.O.U) ⟨bQ.O++[112 [(31,v),(184,.Z (bQ.O.U+1))]]++[.cV k n],F.T,bQ.bE⟩)
def vi(n:I)(k v:V)(F:MS):3e2:=match F.dL n with
 |G (.ay _ _)=>(vh true "list" [v] F).aE λw F=>match F.dL n with
  |G (.ay l t)=>(xB n (.ay l t) 46 [.X [k,w]] F).aE λs F=> 7 11e0
  |_=> .no 132
 |_=> .no 132
def A2(ih:Ih)(s:al)(fn:Fn)(as:0e0)(F:MS):3e2:=251 (as++39e1).U fn.ps.U 129 ((qE fn.cW).ak
 ((ih (.ss fn.cW) ⟨F.O,fn.ps.fw (as++39e1),F.bE⟩).aE λr bQ=>gA r 130 λv=> .Y v ⟨bQ.O,F.T,bQ.bE⟩)
 λq=>gB s 160 (Kn ih q.2 q.1 as F))
def A3(ih:Ih)(a:I)(q:al×D (I×I))(as:0e0)(F:MS):3e2:=cB q.1 (g1 as 153 λv=>F.jn (.a7 a [(58,v)]))
 (gN (lk q.2 166) 154 λi=>(F.jn (.bu a [])).aE λo F=>(rQ ih (5 i) (o::as) F).aE λa F=>gB (tx a) 151 (7 o))
def QB(o:aps)(as:0e0)(F:MS):3e2:=match o with
 | .cV k w=>gO w 133 λn=>g1 as 133 λv=>vi n k v F
 |_=> .no 133
def vj(ih:Ih)(s:al)(f:V)(as:0e0)(F:MS):3e2:=match f with
 | .aa u=>A0 29e8 134 λa=>(Kj a).ak (gN (nJ a) 131 λq=>A3 ih a q as F) λfn=>A2 ih s fn as F
 | .Z i=>gN 18e7 133 λo=>QB o as F
 |_=> .no 134
def A4(o:aps)(i:I)(F:MS):2e9:=match o with
 | .a7 C _=>gB (xC C) 148 (.a7 i F [])
 |_=> .no 150
def QC{α:Type}(v:V)(w:I)(f:am->3e3):3e3:=match v with
 | .ag s=>f s
 |_=> 18e9
def QD(o:aps)(hs:D (apw×aq I×D S))(F:MS):2e9:=match o with
 | .a7 C d=>gN (lk d 58) 139 λv=>QC v 139 λw=>gB (xC C) 139 (hand C (.ag w) hs F)
 |_=> .no 141
def A5(ih:Ih)(s:S)(F:MS):2e9:=match s with
 | .bx t e=>13e9 λv F=>m0 (jO ih 3 t v F)
 | .ex e=>13e9 λx F=> 24e8
 | .bj L=> 7 (105 0e6)
 | .bj (G e)=>13e9 λv F=> 7 (105 v)
 | .bC c a b=>(mw ih c F).aE λc F=>cB c (ih (.ss a) F) (ih 12e5 F)
 | .lO c b=>(mw ih c F).aE λq F=>cB q ((ih 12e5 F).aE λr F=>rK r F (ih (.s (.lO c b)) F)) 24e8
 | .mr h i b=>(tB ih i F).aE λvs F=>gB (oP vs h) 156 (h9 (ih (.gj h vs 0 b) F))
 | .kJ e=>13e9 λv bQ=>gO v 140 λi=>gB (I.g4 F.O.U i) 150 (gN (bQ.dL i) 150 λo=>A4 o i bQ)
 | .AP b hs=>(ih 12e5 F).oM λi bQ=>gN (bQ.dL i) 141 λo=>QD o hs (4 bQ.O bQ.bE)
 | .xh b f=>match ih (12e5) F with
  | .a7 _ _ _=> .no 145
  |r=>r.aE λr F=>(ih (.ss f) F).aE λq F=>gX q 142 (7 r)
 | .AQ=> 24e8
def ap1{α:Type}(s:Tg)(w:I)(f:I->3e3):3e3:=match s with
 | .n m=>f m
 | .t _=> 18e9
def QE(o:aps)(x:V)(j:I)(k:MS->2e9)(F:MS):2e9:=match o with
 | .ay l t=>(gu (l.U+1) t F).aE λs F=>k (F.cM j (.ay (l++[x]) t))
 |_=> .no 158
def on(ih:Ih)(p:aq Ih)(n:al)(t:Tk)(F:MS):2e9:=match t with
 | .x e=>mx (rS ih e F)
 | .t e=>(Km ih e F).aE λb F=> 7 (.b b)
 | .s s=>A5 ih s F
 | .ss l=>match l with
  | []=> 24e8
  |s::l=>(ih (.s s) F).aE λr F=>rK r F (ih (.ss l) F)
 | .aW f as=>match p with
  |L=> .no 0
  |G p=>mx (vj p n f as F)
 | .gj h it k b=>gN 32e7 143 λo=>o.ak 24e8 λv=>(pE F h v).aE λw F=>(ih 12e5 F).aE λr F=>rK r F (ih (.gj h it (k+1) b) F)
 | .mt e h a it k j=>gN 32e7 144 λo=>o.ak 24e8 λv=>ap1 h 159 λm=>(pC ih true a (F.fv m v)).aE λq F=>cB q
  (13e9 λx F=>gN (F.dL j) 158 λo=>QE o x j (ih (.mt e h a it (k+1) j)) F) (ih (.mt e h a it (k+1) j) F)
abbrev PP:=I->Tk->1e0->0e1->fj->Prop
def tD:Ih:=λs s=> .no 0
def QF{β:Type}(l:2e1)(d:β)(f g:(Tk->al)->(Tk->1e0->0e1->fj)->2e1->β):β:=vb l d λq o=>match q with
 | .ec q r=>f q r o
 | .cu q r=>g q r o
 |_=>d
def apy(P:PP):I->I->Ih
 |0,_=>tD
 |n+1,d=>λtk F=>QF F.bE (on (apy P n d) (d.cD L λd=>G (apy P n d)) (I.g4 3 d) tk F)
  (λq r o=>cB (q tk) ((r tk F.O F.T).mY o [P d tk F.O F.T (r tk F.O F.T)]) (on (apy P n d) (d.cD L λd=>G (apy P n d)) (I.g4 3 d) tk F))
  (λq r o=>cB (q tk) ((r tk F.O F.T).mY o [∀O T,P d tk O T (r tk O T)]) (on (apy P n d) (d.cD L λd=>G (apy P n d)) (I.g4 3 d) tk F))
def pF:0e0:=[.X [5e7,5e7],.X [.X [12e9],5e7],.X [.X [10e9],5e7],.X [.X [27e3],5e7],.X [.X [35e0],5e7],.X [.X [12e9,10e9],.X [10e9]]]
def A6:0e0:=[.X [29e0,1e3],.X [16e3,0e7],.X [0 124],.X [21e3]]
structure MB where
 m:I->aps
 B:D V
 e9:K
 apr:K
 aN:D bd
 T0:D V
 T1:D V
 T2:D V
 c0:K
 c1:K
 c2:V
 e0:V
 e1:V
 d0:V
 d1:V
 no:D V
 nl:D V
 gv:K
 pk:K
 g:D V
def MB.tb(b:MB)(t:K):0e0:=if t=0 then b.T0 else if t=1 then b.T1 else b.T2
def MB.eZ(b:MB)(t:K)(l:0e0):MB:={b with T0:=if t=0 then l else b.T0,T1:=if t=0 then b.T1 else if t=1 then l else b.T1,T2:=if t=0 then b.T2 else if t=1 then b.T2 else l}
def MB.el(b:MB)(i:K):V:=if i=0 then b.e0 else b.e1
def MB.fB(b:MB)(i:K)(v:V):MB:={b with e0:=if i=0 then v else b.e0,e1:=if i=0 then b.e1 else v}
def MB.dl(b:MB)(i:K):V:=if i=0 then b.d0 else b.d1
def MB.fI(b:MB)(i:K)(v:V):MB:={b with d0:=if i=0 then v else b.d0,d1:=if i=0 then b.d1 else v}
def lm(t:K):K:=if t=0 then 6 else if t=1 then 4 else 7
def A7(t:K):V:=if t=0 then 0 6 else if t=1 then 10e8 else 0e6
def ed(t:K):Prop:=t=0\/t=1\/t=2
def ia(t:K):Prop:=t=0\/t=1
def LU(c n:K):Prop:=c=45/\n=1\/c=49/\n=1\/c=47/\n=2\/c=51/\n=2\/c=40/\n=4\/c=53/\n=4\/c=41/\n=8
def LS(c n q:K):Prop:=c=44/\n=1/\q=32\/c=48/\n=1/\q=64\/c=46/\n=2/\q=32\/c=50/\n=2/\q=64\/c=52/\n=4/\q=64
def ST(c n:K):Prop:=c=58/\n=1\/c=60/\n=1\/c=59/\n=2\/c=61/\n=2\/c=54/\n=4\/c=62/\n=4\/c=55/\n=8
def kd(n:K):Prop:=n=1\/n=2\/n=4\/n=8
def Ko(n:K):K:=if n=1 then 255 else if n=2 then 65535 else if n=4 then 4294967295 else 18446744073709551615
def pG(n v:K)(i:I):K:=339 ((Builtin.i7 v (Ko n)).aK (2^(8*i)))
def CP(x app:K):Prop:=x=0/\app=2\/x=2/\app=0\/x=0/\app=0\/x=1/\app=1\/x=2/\app=2
def IN(x app:K):Prop:=x=0/\app=0\/x=0/\app=2\/x=1/\app=1
def KO(app:K):K:=if app=0 then 2 else if app=2 then 1 else if app=3 then 5 else 4
def Y6(app:K):Prop:=app=0\/app=1\/app=2\/app=3\/app=4\/app=5
def Q3(q:K):Prop:=q=1\/q=2\/q=5
def hI(t:K):Prop:=t=0\/t=2
def vk(c:K):Prop:=c=17\/c=19
def fC:5e6:=[(1e3,.X [30e0,30e1])]
def hb:5e6:=[(1e3,.X [30e0,30e1]),(3e4,.X [.Z 63,.Z 64])]
def dD(S:I)(h:5e6)(fr:0e0)(k:K)(s x:0e0)(e:al)(b:MB)(aC:1e0):1e0:=
 b.m 0::b.m 1::b.m 2::b.m 3::b.m 4::b.m 5::b.m 6::b.m 7::b.m 8::b.m 9::b.m 10:: 37 b.no::b.m 12:: .bu 894 [(112,8 [.Z 24,.Z 33,.Z 26,.Z 34,.Z 28,.Z 30]),(113,8 [.Z 35,.Z 36,.Z 37]),(114,8 [.Z 41,.Z 43]),(115,8 [.Z 45,.Z 46,.Z 47,.Z 48])]::b.m 14:: .bu 852 [(186,.Z 14),(66,38e4),(112,8 [1e3,1e8,0e7,10e8,3e8,3e4]),(113,8 [1e3,0e7,1e8]),(114,8 [1e3]),(115,8 [1e8,0e7,3e4]),(116,.Z 20),(117,.Z 21),(187,.Z 16)]::b.m 16::b.m 17:: .bu 852 [(186,.Z 17),(66,38e4),(112,11e0),(113,11e0),(114,11e0),(115,8 [1e3]),(116,11e0),(117,11e0),(187,.Z 19)]::b.m 19:: 16 [b.e0,b.e1]:: 16 [b.d0,b.d1]:: .bu 1319 [(31,3e8),(196,5e7),(38,8 A6)]::b.m 23:: 175 (31,.X [.X [10e9],5e7]) (184,.Z 25):: 244 1e8:: 175 (31,.X [.X [12e9],5e7]) (184,.Z 27):: 244 1e3:: 175 (31,.X [.X [27e3],5e7]) (184,.Z 29):: 244 3e4:: 175 (31,.X [.X [35e0],5e7]) (184,.Z 31):: 244 10e8::b.m 32:: .bu 754 [(31,.X [.X [35e0],5e7]),(182,27e6),(183,.Z 32)]:: .bu 754 [(31,.X [.X [12e9,10e9],.X [10e9]]),(182,.Z 18),(183,.Z 22)]:: .bu 677 [(31,35e0),(72,10e8),(169,16e9),(119,.Z 39)]:: .bu 677 [(31,27e3),(72,0 6),(169,16e9),(119,.Z 38)]:: .bu 677 [(31,27e3),(72,0e6),(169,16e9),(119,.Z 40)]:: 37 b.T0:: 37 b.T1:: 37 b.T2:: .bu 586 [(72,1e3),(167,4e0),(168,3e4),(162,.Z 42)]::b.m 42:: .bu 586 [(72,1e8),(167,4e0),(168,3e4),(162,.Z 44)]:: .eF b.aN:: 254 [(31,10e9),(181,1e3),(60,31e4)]:: 254 [(31,10e9),(181,0e7),(60,34e0)]:: 254 [(31,12e9),(181,1e3),(60,31e5)]:: 254 [(31,27e3),(181,1e3),(60,b.c2)]:: .bu 1188 [(105,21e8),(170,0e6),(141,49e0),(161,2 b.gv),(229,2 b.pk),(199,0e7),(231,10e6)]:: .bv h:: .bu 1293 [(155,.Z 49),(105,21e8),(199,0e7),(132,.Z S),(200,.Z 53),(201,.bo e false)]::b.m 52:: 16 fr::b.m 54:: .au x::b.m 56::b.m 57::b.m 58:: .bu 957 [(126,1e3),(182,27e6),(38,6 b.B),(190,0e7),(39,30e0),(40,30e1),(196,6 [0 9]),(195,0e7),(42,(2 k)),(197,.Z 61)]::b.m 60:: 16 s::aC
def vl(e l s:I)(jE:K)(fa h:K):aps:= .bu 957 [(126,3e4),(182,.Z 18),(38,8 A6),(190,1e3),(39,.Z e),(40,.Z l),(196,6 [13e3,2 h]),(195,12e8),(42,0 jE),(197,.Z s)]
def jq:1e0:=[6e4,6e4]
inductive Sh where
 |a
 |b (kn:D (V×V)) (E:D aps)
def bZ(sh:Sh)(b:MB)(k:K)(au:0e0):1e0:=match sh with
 | .a=>dD 55 fC [3e7] k [6e0] au true b []
 | .b s E=>dD 62 s [3e7] k [6e0] b.g true b (43e6::E)
def ej(sh:Sh)(b:MB)(k:K)(au:0e0)(o:aps):1e0:=match sh with
 | .a=>dD 55 fC [3e7] k [6e0] au true b [o]
 | .b s E=>dD 62 s [3e7] k [6e0] b.g true b (43e6::(E++[o]))
def vm(sh:Sh)(b:MB)(k:K)(cN au fr:0e0):1e0:=match sh with
 | .a=>dD 62 fC fr k [6e0] cN true b [43e6,2e0]
 | .b s E=>dD (63+E.U) s fr k [6e0] b.g true b (32e2::(E++[43e6,2e0]))
def hh(sh:Sh):Prop:=sh= .a\/sh= .b fC []\/sh= .b hb jq
def i8(sh:Sh)(b:MB)(k:K)(au:0e0):1e0:=match sh with
 | .a=>27 55 fC [3e7] k [6e0] au b []
 | .b s E=>27 62 s [3e7] k [6e0] b.g b (43e6::E)
def vn:aps:= .bu 922 [(189,10e8),(190,1e3),(191,12e8),(192,31e0)]
def pH(sh:Sh)(b:MB)(k:K)(cN:0e0)(fa h:K)(s:al):1e0:=match sh with
 | .a=>dD 63 [(1e3,.X [30e0,30e1]),(3e4,.X [.Z 64,.Z 65])] [3e7,.Z 67] k [6e0] cN s b [2e0,.au [],6e4,6e4,2e0,vl 64 65 69 0 fa h,vn,16 [.Z 68]]
 | .b _ []=>dD 64 [(1e3,.X [30e0,30e1]),(3e4,.X [.Z 65,.Z 66])] [3e7,.Z 68] k [6e0] b.g s b [32e2,2e0,.au [],6e4,6e4,2e0,vl 65 66 70 0 fa h,vn,16 [.Z 69]]
 | .b _ _=>dD 66 hb [3e7,.Z 67] k [6e0] b.g s b [32e2,6e4,6e4,2e0,.au [],vl 63 64 69 0 fa h,vn,16 [.Z 68]]
def mC(jE:K)(b:MB)(k:K)(au:0e0)(fa s:K):1e0:=27 62 hb [3e7,.Z 65] k [6e0] b.g b [43e6,6e4,6e4,vl 63 64 67 jE fa s,vn,16 [.Z 66]]
def Kq(sh:Sh)(b:MB)(k:K)(au:0e0):1e0:=match sh with
 | .a=>dD 55 fC [3e7] k [] au true b []
 | .b s E=>dD 62 s [3e7] k [] b.g true b (43e6::E)
def xJ(sh:Sh)(b:MB)(k:K)(cN:0e0):1e0:=match sh with
 | .a=>dD 63 fC [] k [6e0] cN true b [44e0,20e1,2e0]
 | .b s E=>dD (64+E.U) s [] k [6e0] b.g true b (32e2::(E++[44e0,20e1,2e0]))
def dJ(dn:K):0e1:=[(164,7e9),(9,0e6),(203,2 dn)]
def my:D S:=match Kb.cW with
 | [_,.lO _ b,_]=>b
 |_=>[]
def rT:apw:=match Kb.cW with
 | [_,.lO t _,_]=>t
 |_=> .lam
def cF(P:PP)(sh:Sh)(b:MB)(k k1:K)(bw:V)(au:0e0)(T:0e1)(o:2e1):2e9:=apy P 90 37 (22 1018 [7e9,3e7,2 k,bw]) ⟨101 b au,T,o⟩
abbrev d9(O:1e0)(T:0e1)(b9:6e1):2e9:= 93 0e6 O b9
abbrev gw(i:I)(O:1e0)(b9:6e1):2e9:= .a7 i (4 O []) b9
def fT(r:2e9):2e9:=match r with
 | .a7 i F ob=> .a7 i (4 F.O F.bE) ob
 |r=>r
def gk:4e9->K
 | []=>0
 |x::l=>25e6+256*gk l
def m3(x n b:K):K:=if 2^(n.aI-1)<=x % 2^n.aI then(x % 2^n.aI-2^n.aI) % 2^b.aI else x % 2^n.aI
def bS(f:I):Tk->al:=λtk=>match tk with
 | .aW (.aa (.N a)) _=>I.bX a f
 |_=>false
def rV(v:V):Tk->1e0->0e1->fj:=λs O T=> 36 v O T
def rX(w:V):Tk->1e0->0e1->fj:=λs O T=> .a7 O.U (O++[.a7 51 [(58,w)]]) T
abbrev cr(P:PP)(d f:I)(as:0e0)(v:V):Prop:=∀O T,P d (22 f as) O T (36 v O T)
abbrev jP(P:PP)(d f:I)(as:0e0)(w:V):Prop:=∀O T,P d (22 f as) O T (.a7 O.U (O++[.a7 51 [(58,w)]]) T)
def vo(P:PP)(sh:Sh)(b:MB)(k1:K)(bw:V)(au:0e0)(T:0e1)(o:2e1):2e9:=apy P 60 35 (271 [7e9,3e7,bw]) ⟨101 b au,T,o⟩
abbrev QG(v:V)(O:1e0)(T:0e1)(b9:6e1):2e9:= 93 v O b9
abbrev m4(b:MB)(k:I)(bw:V):Prop:=dm b.B (k:K)=G bw
abbrev iU(b:MB)(k:I)(q:al):Prop:=bJ ((b.B.U:K)<=(k:K)+1)=q
def dw{α β:Type}{apu apx:α->β}(l:8e4)(h:l.aj apu=l.aj apx):∀a,a∈l->apu a=apx a:=D.gG.mp h
def QH{β:Type}(apu:K->K->β)(p:K×K):β:=apu p.1 p.2
def QI{β:Type}(apu:K->K->K->β)(p:K×K×K):β:=apu p.1 p.2.1 p.2.2
def QJ{β:Type}(apu:Sh->β)(s:5e6)(E:1e0):β×β:=(apu .a,apu (.b s E))
def ir{β:Type}{apu apx:K->K->β}(l:D (K×K))(h:l.aj (QH apu)=l.aj (QH apx)):∀a b,(a,b)∈l->apu a b=apx a b:=λs s=>D.gG.mp h _
def tab3{β:Type}{apu apx:K->K->K->β}(l:D (K×K×K))(h:l.aj (QI apu)=l.aj (QI apx)):∀a b c,(a,b,c)∈l->apu a b c=apx a b c:=λs s s=>D.gG.mp h _
def dW{β:Type}{apu apx:Sh->β}(h:QJ apu=QJ apx):∀sh,apu sh=apx sh:=by
 intro sh;cases sh with
 |a=>exact bB (·.1) (xK (xK h []) [])
 |b s E=>exact bB (·.2) (xK (xK h s) E)
def nK{sh:Sh}(h:15e0):sh∈ [Sh.a,.b fC [],.b hb jq]:=by
 rcases h with H|rfl|rfl
 ·exact .rp _
 ·exact .mj _ (.rp _)
 ·exact .mj _ (.mj _ (.rp _))
def ke{t:K}(h:7e3):t∈ [(0:K),1,2]:=by rcases h with H|rfl|rfl<;>decide
def mz{t:K}(h:ia t):t∈ [(0:K),1]:=by rcases h with H|rfl<;>decide
def pI{t:K}(h:19e3):t∈ [(0:K),2]:=by rcases h with H|rfl<;>decide
def A8{t:K}(h:vk t):t∈ [(17:K),19]:=by rcases h with H|rfl<;>decide
def Y3_m{t:K}(h:t=0\/t=2\/t=3):t∈ [(0:K),2,3]:=by rcases h with H|rfl|rfl<;>decide
def QK{t:K}(h:t=1\/t=2\/t=3\/t=4):t∈ [(1:K),2,3,4]:=by rcases h with H|rfl|rfl|rfl<;>decide
def xL{x app:K}(h:CP x app):(x,app)∈ [((0:K),(2:K)),(2,0),(0,0),(1,1),(2,2)]:=by rcases h with⟨H,H⟩|⟨H,H⟩|⟨H,H⟩|⟨H,H⟩|⟨H,H⟩<;>decide
def pJ{x app:K}(h:IN x app):(x,app)∈ [((0:K),(0:K)),(0,2),(1,1)]:=by rcases h with⟨H,H⟩|⟨H,H⟩|⟨H,H⟩<;>decide
def A9:D (K×K):=[(45,1),(49,1),(47,2),(51,2),(40,4),(53,4),(41,8)]
def Kr{x app:K}(h:LU x app):(x,app)∈A9:=by rcases h with⟨H,H⟩|⟨H,H⟩|⟨H,H⟩|⟨H,H⟩|⟨H,H⟩|⟨H,H⟩|⟨H,H⟩<;>decide
def Ba:D (K×K×K):=[(44,1,32),(48,1,64),(46,2,32),(50,2,64),(52,4,64)]
def QL{x app q:K}(h:LS x app q):(x,app,q)∈Ba:=by rcases h with⟨H,H,H⟩|⟨H,H,H⟩|⟨H,H,H⟩|⟨H,H,H⟩|⟨H,H,H⟩<;>decide
def QM{x app:K}(h:LU x app\/∃q,LS x app q):(x,app)∈A9++Ba.aj λp=>(p.1,p.2.1):=by
 rcases h with h|⟨q,h⟩
 ·exact D.w0 _ (Kr h)
 ·exact D.uM _ (D.ow (f:=λp:K×K×K=>(p.1,p.2.1)) (QL h))
def STl:D (K×K):=[(58,1),(60,1),(59,2),(61,2),(54,4),(62,4),(55,8)]
def Bb{x app:K}(h:ST x app):(x,app)∈STl:=by rcases h with⟨H,H⟩|⟨H,H⟩|⟨H,H⟩|⟨H,H⟩|⟨H,H⟩|⟨H,H⟩|⟨H,H⟩<;>decide
def QYl:D (K×K):=[(1,0),(1,1),(1,3),(1,4),(1,5),(2,1),(2,2),(2,3),(2,4),(2,5),(5,0),(5,1),(5,2),(5,4),(5,5)]
def QN{q app:K}(s:Q3 q)(x:Y6 app)(h:31e6≠q):(q,app)∈QYl:=by
 rcases s with H|rfl|rfl<;>rcases x with H|rfl|rfl|rfl|rfl|rfl<;>first|exact bL H h|decide
def c9(b:MB)(oc:0e0)(en:V)(au:0e0):1e0:=b.m 0:: 37 oc:: 37 b.T0:: 37 b.T1:: 37 b.T2:: .bv [(.ag Z1,10e1),(.ag Z2,8 [13e4,13e5,13e6]),(.ag Z3,.Z 6),(.ag Z4,8 [0 6,10e8,16e9]),(.ag Z5,.Z 7),(.ag Z6,.Z 9),(.ag Z7,.Z 10),(.ag Z8,2 b.gv),(.ag Z9,en),(.ag tv,34e0)]:: 16 [31e5,31e4,b.c2]:: 16 [b.e0,b.e1]::b.m 8:: 16 [b.d0,b.d1]:: 37 b.nl::b.m 11::b.m 12::b.m 13::b.m 14::b.m 15::b.m 16::b.m 17::b.m 18::b.m 19::b.m 20::b.m 21::b.m 22::b.m 23::b.m 24::b.m 25::b.m 26::b.m 27::b.m 28::b.m 29::b.m 30::b.m 31::b.m 32::b.m 33::b.m 34::b.m 35::b.m 36::b.m 37::b.m 38::b.m 39::b.m 40::b.m 41::b.m 42::b.m 43::b.m 44::b.m 45::b.m 46::b.m 47::b.m 48::b.m 49:: 43e6::[]
def ad(b:MB)(en:V)(au:0e0):1e0:=c9 b 4e2 en au
def dc(P:PP)(b:MB)(apr:K)(bw:V)(au:0e0)(T:0e1)(o:2e1):2e9:=apy P 90 39 (22 1448 [6e3,bw,10e6,23e1]) ⟨30e6,T,o⟩
abbrev c5(v:V)(O:1e0)(T:0e1)(b9:6e1):2e9:= 93 v O b9
def c6(r:2e9):2e9:=match r with
 | .aS a F ob=> .aS a ⟨F.O.fG 51,F.T,F.bE⟩ ob
 |r=>r
def iE(v:V)(O:1e0):Tk->1e0->0e1->fj:=λs s l=> 36 v O l
def mA(P:PP)(o1 o2:1e0)(v:V)(as:0e0)(T:0e1):Prop:=P 37 (216 as) o1 T (36 v o2 T)
def dy(k:K)(bw:V):0e1:=[(164,7e9),(207,3e7),(208,2 k),(43,bw)]
abbrev aF(b:MB):MB:={b with gv:=b.gv+1}
abbrev xM(P:PP)(sh:Sh)(b:MB)(k:K)(bw:V)(au:0e0)(O:1e0):Prop:=P 37 (22 1018 [7e9,3e7,2 k,bw]) (275 (k+1) au) 19e4 (36 0e6 O 19e4)
abbrev QO(P:PP)(sh:Sh)(b:MB)(k:K)(bw:V)(au:0e0)(i:I)(O:1e0):Prop:=P 37 (22 1018 [7e9,3e7,2 k,bw]) (275 (k+1) au) 19e4 (.a7 i O 19e4)
def rO(O:1e0):Tk->1e0->0e1->fj:=λs s l=> 36 0e6 O l
def ap2(i:I)(O:1e0):Tk->1e0->0e1->fj:=λs s l=> .a7 i O l
def rU(P:PP)(sh:Sh)(b b':MB)(k:I)(dn:K)(bw:V)(au:0e0)(S:I)(h:5e6)(s x:0e0)(aC:1e0):
  124 P 38 my ⟨i8 sh b k au,8e1,[.v bw,.ec (bS 1018) (rO (dD S h [3e7] (k+1) s x true b' aC)),1e9]⟩= 57 ⟨27 S h [3e7] (k+1) s x b' aC,dJ (dn+1),[]⟩ [m4 b k bw,xM P sh b k bw au (dD S h [3e7] (k+1) s x true b' aC),iU b' k false]:=by cases sh<;>kernel_rfl
def adc(P:PP)(sh:Sh)(b b':MB)(k:I)(dn:K)(bw:V)(au:0e0)(S:I)(h:5e6)(s x:0e0)(aC:1e0):
  124 P 38 my ⟨i8 sh b k au,8e1,[.v bw,.ec (bS 1018) (rO (dD S h [3e7] (k+1) s x true b' aC)),6e7]⟩= 57 ⟨27 S h [] (k+1) s x b' aC,dJ (dn+1),[]⟩ [m4 b k bw,xM P sh b k bw au (dD S h [3e7] (k+1) s x true b' aC),iU b' k true]:=by cases sh<;>kernel_rfl
def Kt(P:PP)(sh:Sh)(b b':MB)(k:I)(dn:K)(bw:V)(au:0e0)(S:I)(h:5e6)(s x:0e0)(aC:1e0):
  124 P 38 my ⟨i8 sh b k au,8e1,[.v bw,.ec (bS 1018) (rO (dD S h [] (k+1) s x true b' aC))]⟩= 57 ⟨27 S h [] (k+1) s x b' aC,dJ (dn+1),[]⟩ [m4 b k bw,xM P sh b k bw au (dD S h [] (k+1) s x true b' aC)]:=by cases sh<;>kernel_rfl
def add(P:PP)(sh:Sh)(b:MB)(k:I)(dn:K)(bw:V)(au:0e0)(i:I)(O:1e0):
  fT (124 P 38 my ⟨i8 sh b k au,8e1,[.v bw,.ec (bS 1018) (ap2 i O)]⟩)= .a7 i (4 O []) [m4 b k bw,QO P sh b k bw au i O]:=by cases sh<;>kernel_rfl
def Ku(P:PP)(sh:Sh)(h:15e0)(b b':MB)(k:I)(dn:K)(bw:V)(au cN:0e0)(fa s:K):
  124 P 38 my ⟨i8 sh b k au,8e1,[.v bw,.ec (bS 1018) (rO (pH sh b' (k+1) cN fa s true))]⟩= 57 ⟨pH sh b' (k+1) cN fa s false,dJ (dn+1),[]⟩ [m4 b k bw,xM P sh b k bw au (pH sh b' (k+1) cN fa s true)]:=by rcases h with H|rfl|rfl<;>kernel_rfl
def ade(P:PP)(b:MB)(k dn fa s:K):124 P 38 my ⟨mC 0 b k [] fa s,8e1,[]⟩= 57 ⟨mC 1 1e2 k [0e8] fa s,dJ (dn+1),[]⟩ (288 1):=ar
def adf(P:PP)(b:MB)(k dn fa s:K):124 P 38 my ⟨mC 1 b k [0e8] fa s,8e1,[]⟩= 57 ⟨mC 2 1e2 k [34e0,0e8] fa s,dJ (dn+1),[]⟩ (288 2):=ar
def adg(P:PP)(b:MB)(k dn fa s:K):124 P 38 my ⟨mC 2 b k [34e0,0e8] fa s,8e1,[240 84 (325 s b.e9)]⟩= 57 ⟨mC 3 1e2 k [2 (325 s b.e9)] fa s,dJ (dn+1),[]⟩ [58 P 33 84 [2 (s+b.e9),17e2] (325 s b.e9),1<=16777216]:=ar
def adh(P:PP)(b:MB)(k:I)(dn x fa s:K):124 P 38 my ⟨mC 3 b (k+1) [6e6] fa s,8e1,[1e9]⟩= 57 ⟨27 62 hb [3e7] (k+1) [6e0] b.g 1e2 [.au [6e6],6e4,6e4,vl 63 64 67 4 fa s,vn,2e0],dJ (dn+1),[]⟩ [iU b k false]:=ar
def QP(P:PP)(sh:Sh)(b:MB)(k:K)(au:0e0)(dn:K):apy P 9 38 (.t rT) ⟨i8 sh b k au,8e1,[]⟩= 123 6e7 ⟨i8 sh b k au,8e1,[]⟩:=by revert sh;show 4e3;kernel_rfl
def Bc(P:PP)(jE:K)(b:MB)(k:K)(au:0e0)(fa s dn:K):apy P 9 38 (.t rT) ⟨mC jE b k au fa s,8e1,[]⟩= 123 6e7 ⟨mC jE b k au fa s,8e1,[]⟩:=ar
def Bd(P:PP)(S:I)(h:5e6)(k:K)(s x:0e0)(e:al)(b:MB)(aC:1e0)(dn:K):apy P 9 38 (.t rT) ⟨dD S h [] k s x e b aC,8e1,[]⟩= 123 1e9 ⟨dD S h [] k s x e b aC,8e1,[]⟩:=ar
def qF:D S:=match Qk.cW with
 | [_,.mr _ _ b,_]=>b
 |_=>[]
def b1(b:MB):0e1:=[(98,6e3),(38,6 b.B),(141,49e0),(132,10e6)]
def jQ:D K:=[16,17,32,35,36,37,38,40,41,44,45,46,47,48,49,50,51,52,53,54,55,58,59,60,61,62,63,64,65,66,208,209,210,64520,64521,64522,64523,64524,64525,64526,64527,64528,64529]
abbrev xN(P:PP)(b:MB)(bw:V)(au:0e0)(v:V)(O:1e0):Prop:=P 39 (22 1448 [6e3,bw,10e6,49e0]) (373 1e2) (1e7++[(131,bw)]) (36 v O (1e7++[(131,bw)]))
def QQ(P:PP)(b b':MB)(oc:0e0)(au b6:0e0)(aC:0e0)(c:K)(h:c∈jQ):124 P 39 qF ⟨30e6,1e7++[(131,.X (1e5::aC))],[261 1448 0e6 (87 b' oc b6)]⟩= 57 ⟨87 b' oc b6,1e7++[(131,.X (1e5::aC)),(58,0e6)],[]⟩ [xN P b (.X (1e5::aC)) au 0e6 (87 b' oc b6)]:=by revert c h;show 3e1;kernel_rfl
def adi(P:PP)(b b':MB)(oc:0e0)(au b6:0e0)(aC:0e0)(z:am)(c:K)(h:c∈19::jQ):124 P 39 qF ⟨30e6,1e7++[(131,.X (1e5::aC))],[261 1448 7e8 (87 b' oc b6)]⟩= .aS (306 [.ag rJ,7e8]) ⟨87 b' oc b6,1e7++[(131,.X (1e5::aC)),(58,7e8)],[]⟩ [xN P b (.X (1e5::aC)) au 7e8 (87 b' oc b6)]:=by revert c h;show 3e1;kernel_rfl
def adj(P:PP)(b b':MB)(oc:0e0)(au b6:0e0)(aC:0e0)(c:K)(h:c=16\/c=17):124 P 39 qF ⟨30e6,1e7++[(131,.X (1e5::aC))],[261 1448 0e6 (c9 b' oc (.X [25e3,14e5]) b6)]⟩= .aS (306 [25e3,14e5]) ⟨c9 b' oc (.X [25e3,14e5]) b6,1e7++[(131,.X (1e5::aC)),(58,0e6)],[]⟩ [xN P b (.X (1e5::aC)) au 0e6 (c9 b' oc (.X [25e3,14e5]) b6)]:=by
 rcases h with H|rfl<;>kernel_rfl
def adk(P:PP)(b b':MB)(oc:0e0)(au:0e0)(aC:0e0):124 P 39 qF ⟨30e6,1e7++[(131,.X (8e3::aC))],[261 1448 0e6 (87 b' oc [])]⟩= .aS (306 [28e9,5e7]) ⟨87 b' oc [],1e7++[(131,.X (8e3::aC)),(58,0e6)],[]⟩ [xN P b (.X (8e3::aC)) au 0e6 (87 b' oc [])]:=ar
def adl(P:PP)(b:MB):124 P 39 qF ⟨35e8,1e7++[(131,.X [21e3])],[]⟩= 123 (306 [28e9,5e7]) ⟨117 1e2,1e7++[(131,.X [21e3])],[]⟩:=ar
def xO:D K:=[40,41,44,45,46,47,48,49,50,51,52,53]
def Kv:D K:=[54,58,59]
def Kw:D K:=[55,60,61,62]
def vp(c:K):K:=if c=41 then 2 else if c<48 then 1 else 2
def iA(r:2e9):2e9:=match r with
 | .aS a F ob=> .aS a ⟨F.O.fG 1,F.T,F.bE⟩ ob
 |r=>r
def adm(P:PP)(d:I)(O:1e0)(T:0e1)(a n:K)(u:al):113 1 1344 [0e2] [.v (.y n u)]= 93 (.y n u) O [9 a 1000=true,9 a 8=true,(dm [0e7,1e3,12e9,0 2147483647,0 (-2147483648),0 255,0 (-129),2 (a.ah 1000)] 20e0)=G (.y n u)]:=ar
def adn(P:PP)(d:I)(O:1e0)(T:0e1)(b:K):113 1 1351 [1e3,2 b] [6e7]= 154 [.X [29e0,0e7]] O [9 b 2=true,((b.ah 2)==0)=true]:=ar
def ado(P:PP)(d:I)(O:1e0)(T:0e1)(b:K):113 1 1351 [1e3,2 b] [1e9]= 154 [.X [0 208,35e0]] O [9 b 2=true,((b.ah 2)==0)=false]:=ar
def adp(P:PP)(d:I)(O:1e0)(T:0e1)(t b:K):113 1 1351 [2 t,2 b] [1e9,6e7]= 154 [.X [0 208,27e3]] O [(t==1)=false,9 b 3=true,((b.ah 3)==0)=true]:=ar
def adq(P:PP)(d:I)(O:1e0)(T:0e1)(t b:K):113 1 1351 [2 t,2 b] [1e9,1e9]= 154 [.X [0 210,38 (b.aK 3) 6]] O [(t==1)=false,9 b 3=true,((b.ah 3)==0)=false,15 b 3=true,9 (b.aK 3) 6=true]:=ar
def t_three(P:PP)(d:I)(O:1e0)(T:0e1)(a m:K):113 1 1358 [0e2,2 m] []= 154 [.X [5e8,2 (a.ah m)],.X [5e8,38 (a.aK m) m],.X [5e8,38 (a.aK (m^2)) 8]] O [9 a m=true,15 a m=true,9 (a.aK m) m=true,a8 .kK m 2=true,15 a (m^2)=true,9 (a.aK (m^2)) 8=true]:=ar
def t_o4(P:PP)(d:I)(O:1e0)(T:0e1)(a:K):113 2 1363 [10e8,0e2] []= 154 [.X [0 63],.X [4e0,1e3]] O []:=ar
def t_o5(P:PP)(d:I)(O:1e0)(T:0e1)(a n:K)(u:al):113 2 1363 [3e8,0e2] [.v (.y n u)]= 154 [.X [5e8,.y n u],.X [17e2],.X [4e0,1e3]] O [9 a 4=true,(dm [0e7,1e3,1e8,12e9] 38e1)=G (.y n u)]:=ar
def t_o6(P:PP)(d:I)(O:1e0)(T:0e1)(a:K):113 2 1363 [0 6,0e2] []= 154 [.X [5e8,2 (a.ah 18)],.X [5e8,2 (((a.aK 18).ah 700)-100)],.X [5e8,38 (a.aK 12600) 7],.X [16e1]] O [9 a 18=true,15 a 18=true,9 (a.aK 18) 700=true,15 a 12600=true,9 (a.aK 12600) 7=true]:=ar
def t_o7(P:PP)(d:I)(O:1e0)(T:0e1)(a:K)(r s t:V):113 2 1363 [16e9,0e2] [305 1358 [r,s,t]]= 139 [r,s,t,.X [20e9]] O [cr P (d+1) 1358 [0e2,0 18] (6 [r,s,t]),4<=16777216]:=ar
def t_o8(P:PP)(d:I)(O:1e0)(T:0e1)(a:K)(r s t:V):113 2 1363 [0 8,0e2] [305 1358 [r,s,t]]= 139 [r,s,t,.X [8e6,2 21e2]] O [15 a 2=true,cr P (d+1) 1358 [2 (a.aK 2),4e1] (6 [r,s,t]),9 a 2=true,4<=16777216]:=ar
def t_o9(P:PP)(d:I)(O:1e0)(T:0e1)(a:K):113 2 1363 [0 9,0e2] []= 154 [.X [48e7,2 21e2]] O [9 a 2=true]:=ar
def t_ol(P:PP)(hd:d=0\/d=1)(s:c∈xO)(T:0e1)(B:0e0)(ft:al)(a:K):iA (152 P 60 38 1363 [0 d,0e2] [5e0] [.v 1e5])= 154 [.X [5e8,38 (a.aK 12) 17],.X [1e5,0e7,38 ((a.aK 12).aK 17) 3],.X [4e0,0 (vp c)]] [5e0] [9 a 12=true,(dm [0 40,0 41,0 44,0 45,0 46,0 47,0 48,0 49,0 50,0 51,0 52,0 53] 12e7)=G 1e5,15 a 12=true,9 (a.aK 12) 17=true,15 (a.aK 12) 17=true,9 ((a.aK 12).aK 17) 3=true]:=by
 revert s;generalize c=z;revert z;rcases hd with H|rfl<;>(apply D.gG.mp;kernel_rfl)
def t_os(P:PP)(hd:d=2\/d=3)(s:c∈Kv)(T:0e1)(B:0e0)(ft:al)(a n:K):iA (152 P 60 38 1363 [0 d,0e2] [5e0] [.v 1e5,228 1344 0e3])= 154 [.X [5e8,38 12e1 17],.X [5e8,0e3],.X [1e5,0e7,38 ((12e1).aK 17) 2]] [5e0] [9 a 7=true,(dm [0 54,0 55,0 58,0 59,0 60,0 61,0 62] 19e9)=G 1e5,15 a 7=true,15 12e1 34=true,cr P 37 1344 [2 ((12e1).aK 34)] 0e3,9 12e1 17=true,15 12e1 17=true,9 ((12e1).aK 17) 2=true]:=by
 revert s;generalize c=z;revert z;rcases hd with H|rfl<;>(apply D.gG.mp;kernel_rfl)
def t_ou(P:PP)(hd:d=2\/d=3)(s:c∈Kw)(T:0e1)(B:0e0)(ft:al)(a n:K)(m:K)(u:al):iA (152 P 60 38 1363 [0 d,0e2] [5e0] [.v 1e5,228 1344 0e3,.v (.y m u)])= 154 [.X [5e8,38 12e1 17],.X [21e5,.y m u],.X [1e5,0e7,38 ((12e1).aK 17) 2]] [5e0] [9 a 7=true,(dm [0 54,0 55,0 58,0 59,0 60,0 61,0 62] 19e9)=G 1e5,15 a 7=true,15 12e1 34=true,cr P 37 1344 [2 ((12e1).aK 34)] 0e3,9 12e1 3=true,(dm [0e3,2 ((9223372036854775807:K)-12e1),2 ((-9223372036854775808:K)+12e1)] ((12e1).ah 3))=G (.y m u),9 12e1 17=true,15 12e1 17=true,9 ((12e1).aK 17) 2=true]:=by
 revert s;generalize c=z;revert z;rcases hd with H|rfl<;>(apply D.gG.mp;kernel_rfl)
def t_e12_0(P:PP)(d:I)(O:1e0)(T:0e1)(a:K):113 2 1370 [0 12,0e2] [6e7]= 154 [.X [5e8,38 16e2 8],.X [38e2,39e4],.X [4e0,10e8]] O [9 a 3=true,15 a 3=true,9 16e2 8=true,(8e2==1)=true]:=ar
def t_e12_1(P:PP)(d:I)(O:1e0)(T:0e1)(a:K):113 2 1370 [0 12,0e2] [1e9]= 154 [.X [5e8,38 16e2 8],.X [38e2,39e4],.X [4e0,3e4]] O [9 a 3=true,15 a 3=true,9 16e2 8=true,(8e2==1)=false]:=ar
def t_e13(P:PP)(d:I)(O:1e0)(T:0e1)(a:K)(r:V):113 2 1370 [0 13,0e2] [305 1351 [r]]= 139 [.X [5e8,38 16e2 8],r,.X [0 38,39e4]] O [9 a 3=true,15 a 3=true,9 16e2 8=true,15 16e2 8=true,cr P (d+1) 1351 [39e4,2 (25e9 8)] (6 [r]),2<=16777216,3<=16777216]:=ar
def t_e14(P:PP)(d:I)(O:1e0)(T:0e1)(a:K):113 2 1370 [0 14,0e2] []= 154 [.X [48e8,39e4],.X [4e0,1e3]] O [9 a 3=true,15 a 3=true]:=ar
def t_e15(P:PP)(d:I)(O:1e0)(T:0e1)(a n:K)(u:al)(r:V):113 2 1370 [0 15,0e2] [305 1351 [r],.v (.y n u)]= 139 [r,.X [5e8,.y n u],.X [39e3,39e4],.X [4e0,1e3]] O [9 a 3=true,15 a 3=true,cr P (d+1) 1351 [39e4,2 16e2] (6 [r]),15 16e2 18=true,9 (25e9 18) 5=true,(dm [0e7,1e3,1e8,3e4,12e9] ((25e9 18).ah 5))=G (.y n u),4<=16777216]:=ar
def t_e16(P:PP)(d:I)(O:1e0)(T:0e1)(a:K)(r:V):113 2 1370 [4e0,0e2] [305 1351 [r]]= 139 [.X [5e8,38 16e2 6],r,.X [5e8,38 (25e9 108) 5],.X [33e9,39e4]] O [9 a 3=true,15 a 3=true,9 16e2 6=true,15 16e2 6=true,cr P (d+1) 1351 [39e4,2 (25e9 6)] (6 [r]),2<=16777216,15 16e2 108=true,9 (25e9 108) 5=true,4<=16777216]:=ar
def t_e17(P:PP)(d:I)(O:1e0)(T:0e1)(a x app:K)(r s t:V):113 2 1370 [4e1,0e2] [.v (.X [0 x,17e1]),305 1358 [r,s,t]]= 139 [r,s,t,.X [28e7,0 x,17e1]] O [9 a 3=true,15 a 3=true,9 a 5=true,(dm [.X [0e7,1e8],.X [1e8,0e7],.X [0e7,0e7],.X [1e3,1e3],.X [1e8,1e8]] 32e1)=G (.X [0 x,17e1]),15 a 5=true,cr P (d+1) 1358 [2 (a.aK 5),0 6] (6 [r,s,t]),4<=16777216]:=ar
def t_e18(P:PP)(d:I)(O:1e0)(T:0e1)(a x app:K)(r s t:V):113 2 1370 [0 18,0e2] [.v (.X [0 x,17e1]),305 1358 [r,s,t]]= 139 [r,s,t,.X [8e7,0 x,17e1]] O [9 a 3=true,15 a 3=true,(dm [.X [0e7,0e7],.X [0e7,1e8],.X [1e3,1e3]] 8e2)=G (.X [0 x,17e1]),cr P (d+1) 1358 [2 16e2,0 6] (6 [r,s,t]),4<=16777216]:=ar
def t_e19(P:PP)(d:I)(O:1e0)(T:0e1)(a:K):113 2 1370 [8e3,0e2] []= 154 [.X [48e9,2 21e2]] O [9 a 3=true,15 a 3=true,9 a 2=true]:=ar
def t_do(P:PP)(T:0e1)(B:0e0)(ft:al)(x:K)(s:0e0):iA (152 P 60 39 1377 [6e6] [5e0] [6e7,261 1363 (6 s) [5e0]])= 139 s [5e0] [9 x 24=true,15 x 24=true,bJ (7e6<10)=true,P 38 (22 1363 [49e6,36e8]) [5e0] [(0,6e6),(79,49e6),(76,36e8)] (36 (6 s) [5e0] [(0,6e6),(79,49e6),(76,36e8)])]:=ar
def Kx(P:PP)(T:0e1)(B:0e0)(ft:al)(x:K):iA (152 P 60 39 1377 [6e6] [5e0] [1e9,6e7])= 154 [.X [16e3,38 30e8 3],.X [4e0,2 ((1:K)+(19e0 3))]] [5e0] [9 x 24=true,15 x 24=true,bJ (7e6<10)=false,41e2=true,270 3=true,270 3=true]:=ar
def t_d11_0(P:PP)(T:0e1)(B:0e0)(ft:al)(x:K)(n:K)(r:V):iA (152 P 60 39 1377 [6e6] [5e0] [1e9,1e9,6e7,6e7,305 1351 [r]])= 139 [r,.X [21e4,38 30e8 3]] [5e0] [9 x 24=true,15 x 24=true,bJ (7e6<10)=false,41e2=false,44e1=true,270 3=true,((19e0 3)==2)=true,215 3=true,cr P 38 1351 [0e7,328 3] (6 [r]),270 3=true,2<=16777216]:=ar
def QR(P:PP)(T:0e1)(B:0e0)(ft:al)(x:K)(n:K)(r:V):iA (152 P 60 39 1377 [6e6] [5e0] [1e9,1e9,6e7,1e9,228 1344 0e3])= 139 [.X [2 ((65:K)+(19e0 3)),0e3],.X [21e4,38 30e8 3]] [5e0] [9 x 24=true,15 x 24=true,bJ (7e6<10)=false,41e2=false,44e1=true,270 3=true,((19e0 3)==2)=false,270 3=true,215 3=true,cr P 38 1344 [328 3] 0e3,270 3=true,2<=16777216]:=ar
def t_de(P:PP)(T:0e1)(B:0e0)(ft:al)(x:K)(s:0e0):iA (152 P 60 39 1377 [6e6] [5e0] [1e9,1e9,1e9,6e7,261 1370 (6 s) [5e0]])= 139 s [5e0] [9 x 24=true,15 x 24=true,bJ (7e6<10)=false,41e2=false,44e1=false,bJ (7e6<20)=true,P 38 (22 1370 [49e6,36e8]) [5e0] [(0,6e6),(79,49e6),(76,36e8)] (36 (6 s) [5e0] [(0,6e6),(79,49e6),(76,36e8)])]:=ar
def t_d20(P:PP)(T:0e1)(B:0e0)(ft:al)(x:K)(r:V):iA (152 P 60 39 1377 [6e6] [5e0] [1e9,1e9,1e9,1e9,6e7,305 1351 [r]])= 139 [r,.X [43e1],.X [4e0,1e3]] [5e0] [9 x 24=true,15 x 24=true,bJ (7e6<10)=false,41e2=false,44e1=false,bJ (7e6<20)=false,(7e6==20)=true,270 2=true,215 2=true,cr P 38 1351 [38 30e8 2,328 2] (6 [r]),3<=16777216]:=ar
def t_d23(P:PP)(T:0e1)(B:0e0)(ft:al)(x:K)(n m:K):iA (152 P 60 39 1377 [6e6] [5e0] [1e9,1e9,1e9,1e9,1e9,228 1344 0e3,240 1344 m,6e7])= 139 [.X [5e8,0e3],.X [21e5,2 m],.X [4e0,3e8],.X [4e0,1e8]] [5e0] [9 x 24=true,15 x 24=true,bJ (7e6<10)=false,41e2=false,44e1=false,bJ (7e6<20)=false,(7e6==20)=false,cr P 38 1344 [36e8] 0e3,215 8=true,58 P 38 1344 [328 8] m,(7e6==23)=true,4<=16777216]:=ar
def QS(P:PP)(T:0e1)(B:0e0)(ft:al)(x:K)(n m t:K):iA (152 P 60 39 1377 [6e6] [5e0] [1e9,1e9,1e9,1e9,1e9,228 1344 0e3,240 1344 m,1e9,.v 1e3,.v 1e1])= 139 [.X [5e8,0e3],.X [5e8,38 (11e4 8) 8],.X [4e1,1e3,1e1]] [5e0] [9 x 24=true,15 x 24=true,bJ (7e6<10)=false,41e2=false,44e1=false,bJ (7e6<20)=false,(7e6==20)=false,cr P 38 1344 [36e8] 0e3,215 8=true,58 P 38 1344 [328 8] m,(7e6==23)=false,270 4=true,(dm [3e8,3e8,1e3,1e8] (19e0 4))=G 1e3,215 8=true,9 (11e4 8) 8=true,215 4=true,9 (11e4 4) 2=true,(dm [0e7,1e8] ((11e4 4).ah 2))=G 1e1,3<=16777216,3<=16777216]:=ar
def QT(P:PP)(T:0e1)(B:0e0)(ft:al)(x:K)(n m t:K):iA (152 P 60 39 1377 [6e6] [5e0] [1e9,1e9,1e9,1e9,1e9,228 1344 0e3,240 1344 m,1e9,.v 1e8,.v 1e1])= 139 [.X [21e5,2 m],.X [5e8,38 (11e4 8) 8],.X [4e1,1e8,1e1]] [5e0] [9 x 24=true,15 x 24=true,bJ (7e6<10)=false,41e2=false,44e1=false,bJ (7e6<20)=false,(7e6==20)=false,cr P 38 1344 [36e8] 0e3,215 8=true,58 P 38 1344 [328 8] m,(7e6==23)=false,270 4=true,(dm [3e8,3e8,1e3,1e8] (19e0 4))=G 1e8,215 8=true,9 (11e4 8) 8=true,215 4=true,9 (11e4 4) 2=true,(dm [0e7,1e8] ((11e4 4).ah 2))=G 1e1,3<=16777216,3<=16777216]:=ar
def Be(P:PP)(T:0e1)(B:0e0)(ft:al)(x:K)(n m t:K):iA (152 P 60 39 1377 [6e6] [5e0] [1e9,1e9,1e9,1e9,1e9,228 1344 0e3,240 1344 m,1e9,.v 3e8,.v 1e1])= 139 [.X [5e8,0e3],.X [21e5,2 m],.X [5e8,38 (11e4 8) 8],.X [4e1,3e8,1e1],.X [4e0,1e8]] [5e0] [9 x 24=true,15 x 24=true,bJ (7e6<10)=false,41e2=false,44e1=false,bJ (7e6<20)=false,(7e6==20)=false,cr P 38 1344 [36e8] 0e3,215 8=true,58 P 38 1344 [328 8] m,(7e6==23)=false,270 4=true,(dm [3e8,3e8,1e3,1e8] (19e0 4))=G 3e8,215 8=true,9 (11e4 8) 8=true,215 4=true,9 (11e4 4) 2=true,(dm [0e7,1e8] ((11e4 4).ah 2))=G 1e1,4<=16777216,5<=16777216]:=ar
universe e
section
open PySem PySem.W PyProof.Rows
set_option backward.match.sparseCases false
def ba(h:(a&&b)=true):a=true/\b=true:=48e2
def dt{c:Prop}[i:rg c]{f:c->al}(h:(if h:c then f h else false)=true):∃s,f s=true:=by
 cases i with
 |sT s=>exact⟨s,h⟩
 |isFalse s=>cases h
def kf{α:Type}(l:8e4):al:=match l with
 | []=>true
 |_::_=>false
@[elab_as_elim] def kg {α:Type} {C:D α->Prop} {l:D α} (h:kf l=true) (g:C []):C l:=by
 cases l with
 |aQ=>exact g
 |aP=>cases h
def ln{α:Type}(l:8e4)(p:α->8e4->al):al:=match l with
 | []=>false
 |a::l=>p a l
@[elab_as_elim] def lU {α:Type} {C:D α->Prop} {p} {l:D α} (h:ln l p=true) (g:∀a l,p a l=true->C (a::l)):C l:=by
 cases l with
 |aQ=>cases h
 |aP a l=>exact g a l h
def lp{α:Type}(o:29e6)(p:α->al):al:=match o with
 |L=>false
 |G a=>p a
@[elab_as_elim] def pK {α:Type} {C:aq α->Prop} {p} {o:aq α} (h:lp o p=true) (g:∀a,p a=true->C (G a)):C o:=by
 cases o with
 |L=>cases h
 |G a=>exact g a h
def vq{α:Type}(o:29e6):al:=match o with
 |L=>true
 |G _=>false
@[elab_as_elim] def xP {α:Type} {C:aq α->Prop} {o:aq α} (h:vq o=true) (g:C L):C o:=by
 cases o with
 |L=>exact g
 |G=>cases h
def rW{α:Type}(l:8e4)(p:α->al):al:=ln l λa l=>p a&&kf l
@[elab_as_elim] def tE {α:Type} {C:D α->Prop} {p} {l:D α} (h:rW l p=true) (g:∀a,p a=true->C [a]):C l:=
 lU h λa s h=>kg (C:=λl=>C (a::l)) (ba h).2 (g a (ba h).1)
def xQ(E:PySem.aZ):=λp=>if h:E.ce=0 then @PySem.aZ.pL.ak 7e7 E h p else false
@[elab_as_elim] def Bf {E p} {C:PySem.aZ->Prop} (h:xQ E p=true) (g:∀a b c,p a b c=true->C (.pL a b c)):C E:=(dt h).ak λc=> @PySem.aZ.pL.ak (λE=>∀c:E.ce=0,@PySem.aZ.pL.ak (λs=>al) E c p=true->C E) E c (λa b c s=>g a b c) c
def QU(E:PySem.aZ):=λp=>if h:E.ce=2 then @PySem.aZ.Bg.ak 7e7 E h p else false
@[elab_as_elim] def eBinOp_ {E p} {C:PySem.aZ->Prop} (h:QU E p=true) (g:∀a b c d,p a b c d=true->C (.Bg a b c d)):C E:=(dt h).ak λc=> @PySem.aZ.Bg.ak (λE=>∀c:E.ce=2,@PySem.aZ.Bg.ak (λs=>al) E c p=true->C E) E c (λa b c d s=>g a b c d) c
def Bh(E:PySem.aZ):=λp=>if h:E.ce=3 then @PySem.aZ.rY.ak 7e7 E h p else false
@[elab_as_elim] def Ky {E p} {C:PySem.aZ->Prop} (h:Bh E p=true) (g:∀a b c,p a b c=true->C (.rY a b c)):C E:=(dt h).ak λc=> @PySem.aZ.rY.ak (λE=>∀c:E.ce=3,@PySem.aZ.rY.ak (λs=>al) E c p=true->C E) E c (λa b c s=>g a b c) c
def Kz(E:PySem.aZ):=λp=>if h:E.ce=5 then @PySem.aZ.vr.ak 7e7 E h p else false
@[elab_as_elim] def QV {E p} {C:PySem.aZ->Prop} (h:Kz E p=true) (g:∀a b c d,p a b c d=true->C (.vr a b c d)):C E:=(dt h).ak λc=> @PySem.aZ.vr.ak (λE=>∀c:E.ce=5,@PySem.aZ.vr.ak (λs=>al) E c p=true->C E) E c (λa b c d s=>g a b c d) c
def QW(E:PySem.aZ):=λp=>if h:E.ce=6 then @PySem.aZ.Bi.ak 7e7 E h p else false
@[elab_as_elim] def eDict_ {E p} {C:PySem.aZ->Prop} (h:QW E p=true) (g:∀a b c,p a b c=true->C (.Bi a b c)):C E:=(dt h).ak λc=> @PySem.aZ.Bi.ak (λE=>∀c:E.ce=6,@PySem.aZ.Bi.ak (λs=>al) E c p=true->C E) E c (λa b c s=>g a b c) c
def Bj(E:PySem.aZ):=λp=>if h:E.ce=8 then @PySem.aZ.gV.ak 7e7 E h p else false
@[elab_as_elim] def adr {E p} {C:PySem.aZ->Prop} (h:Bj E p=true) (g:∀a b c d,p a b c d=true->C (.gV a b c d)):C E:=(dt h).ak λc=> @PySem.aZ.gV.ak (λE=>∀c:E.ce=8,@PySem.aZ.gV.ak (λs=>al) E c p=true->C E) E c (λa b c d s=>g a b c d) c
def KA(E:PySem.aZ):=λp=>if h:E.ce=15 then @PySem.aZ.vt.ak 7e7 E h p else false
@[elab_as_elim] def QX {E p} {C:PySem.aZ->Prop} (h:KA E p=true) (g:∀a b c d,p a b c d=true->C (.vt a b c d)):C E:=(dt h).ak λc=> @PySem.aZ.vt.ak (λE=>∀c:E.ce=15,@PySem.aZ.vt.ak (λs=>al) E c p=true->C E) E c (λa b c d s=>g a b c d) c
def xR(E:PySem.aZ):=λp=>if h:E.ce=16 then @PySem.aZ.jR.ak 7e7 E h p else false
@[elab_as_elim] def KB {E p} {C:PySem.aZ->Prop} (h:xR E p=true) (g:∀a b c d,p a b c d=true->C (.jR a b c d)):C E:=(dt h).ak λc=> @PySem.aZ.jR.ak (λE=>∀c:E.ce=16,@PySem.aZ.jR.ak (λs=>al) E c p=true->C E) E c (λa b c d s=>g a b c d) c
def KD(E:PySem.aZ):=λp=>if h:E.ce=19 then @PySem.aZ.rZ.ak 7e7 E h p else false
@[elab_as_elim] def QY {E p} {C:PySem.aZ->Prop} (h:KD E p=true) (g:∀a b c,p a b c=true->C (.rZ a b c)):C E:=(dt h).ak λc=> @PySem.aZ.rZ.ak (λE=>∀c:E.ce=19,@PySem.aZ.rZ.ak (λs=>al) E c p=true->C E) E c (λa b c s=>g a b c) c
def xS(E:PySem.aZ):=λp=>if h:E.ce=20 then @PySem.aZ.kM.ak 7e7 E h p else false
@[elab_as_elim] def Bk {E p} {C:PySem.aZ->Prop} (h:xS E p=true) (g:∀a b c,p a b c=true->C (.kM a b c)):C E:=(dt h).ak λc=> @PySem.aZ.kM.ak (λE=>∀c:E.ce=20,@PySem.aZ.kM.ak (λs=>al) E c p=true->C E) E c (λa b c s=>g a b c) c
def xT(E:PySem.aZ):=λp=>if h:E.ce=21 then @PySem.aZ.qG.ak 7e7 E h p else false
@[elab_as_elim] def Bl {E p} {C:PySem.aZ->Prop} (h:xT E p=true) (g:∀a b c,p a b c=true->C (.qG a b c)):C E:=(dt h).ak λc=> @PySem.aZ.qG.ak (λE=>∀c:E.ce=21,@PySem.aZ.qG.ak (λs=>al) E c p=true->C E) E c (λa b c s=>g a b c) c
def m5(E:PySem.aZ):=λp=>if h:E.ce=23 then @PySem.aZ.dq.ak 7e7 E h p else false
@[elab_as_elim] def oQ {E p} {C:PySem.aZ->Prop} (h:m5 E p=true) (g:∀a b,p a b=true->C (.dq a b)):C E:=(dt h).ak λc=> @PySem.aZ.dq.ak (λE=>∀c:E.ce=23,@PySem.aZ.dq.ak (λs=>al) E c p=true->C E) E c (λa b s=>g a b) c
def eList(E:PySem.aZ):=λp=>if h:E.ce=24 then @PySem.aZ.D.ak 7e7 E h p else false
@[elab_as_elim] def ads {E p} {C:PySem.aZ->Prop} (h:eList E p=true) (g:∀a b,p a b=true->C (.D a b)):C E:=(dt h).ak λc=> @PySem.aZ.D.ak (λE=>∀c:E.ce=24,@PySem.aZ.D.ak (λs=>al) E c p=true->C E) E c (λa b s=>g a b) c
def tF(E:PySem.aZ):=λp=>if h:E.ce=25 then @PySem.aZ.kh.ak 7e7 E h p else false
@[elab_as_elim] def tG {E p} {C:PySem.aZ->Prop} (h:tF E p=true) (g:∀a b c,p a b c=true->C (.kh a b c)):C E:=(dt h).ak λc=> @PySem.aZ.kh.ak (λE=>∀c:E.ce=25,@PySem.aZ.kh.ak (λs=>al) E c p=true->C E) E c (λa b c s=>g a b c) c
def KE(E:PySem.aZ):=λp=>if h:E.ce=26 then @PySem.aZ.r0.ak 7e7 E h p else false
@[elab_as_elim] def QZ {E p} {C:PySem.aZ->Prop} (h:KE E p=true) (g:∀a b c d,p a b c d=true->C (.r0 a b c d)):C E:=(dt h).ak λc=> @PySem.aZ.r0.ak (λE=>∀c:E.ce=26,@PySem.aZ.r0.ak (λs=>al) E c p=true->C E) E c (λa b c d s=>g a b c d) c
def KF(E:ck):=λp=>if h:E.ce=3 then @ck.pM.ak 7e7 E h p else false
@[elab_as_elim] def KG {E p} {C:ck->Prop} (h:KF E p=true) (g:∀a b,p a b=true->C (.pM a b)):C E:=(dt h).ak λc=> @ck.pM.ak (λE=>∀c:E.ce=3,@ck.pM.ak (λs=>al) E c p=true->C E) E c (λa b s=>g a b) c
def Q0(E:ck):=λp=>if h:E.ce=5 then @ck.pN.ak 7e7 E h p else false
@[elab_as_elim] def adt {E p} {C:ck->Prop} (h:Q0 E p=true) (g:∀a b c,p a b c=true->C (.pN a b c)):C E:=(dt h).ak λc=> @ck.pN.ak (λE=>∀c:E.ce=5,@ck.pN.ak (λs=>al) E c p=true->C E) E c (λa b c s=>g a b c) c
def Q1(E:ck):=λp=>if h:E.ce=9 then @ck.For.ak 7e7 E h p else false
@[elab_as_elim] def adu {E p} {C:ck->Prop} (h:Q1 E p=true) (g:∀a b c d e,p a b c d e=true->C (.For a b c d e)):C E:=(dt h).ak λc=> @ck.For.ak (λE=>∀c:E.ce=9,@ck.For.ak (λs=>al) E c p=true->C E) E c (λa b c d e s=>g a b c d e) c
def Q2(E:ck):=λp=>if h:E.ce=11 then @ck.Bm.ak 7e7 E h p else false
@[elab_as_elim] def Q4 {E p} {C:ck->Prop} (h:Q2 E p=true) (g:∀a b c d,p a b c d=true->C (.Bm a b c d)):C E:=(dt h).ak λc=> @ck.Bm.ak (λE=>∀c:E.ce=11,@ck.Bm.ak (λs=>al) E c p=true->C E) E c (λa b c d s=>g a b c d) c
def Q5(E:ck):=λp=>if h:E.ce=12 then @ck.If.ak 7e7 E h p else false
@[elab_as_elim] def adv {E p} {C:ck->Prop} (h:Q5 E p=true) (g:∀a b c d,p a b c d=true->C (.If a b c d)):C E:=(dt h).ak λc=> @ck.If.ak (λE=>∀c:E.ce=12,@ck.If.ak (λs=>al) E c p=true->C E) E c (λa b c d s=>g a b c d) c
def Q6(E:ck):=λp=>if h:E.ce=16 then @ck.Bn.ak 7e7 E h p else false
@[elab_as_elim] def adw {E p} {C:ck->Prop} (h:Q6 E p=true) (g:∀a b c,p a b c=true->C (.Bn a b c)):C E:=(dt h).ak λc=> @ck.Bn.ak (λE=>∀c:E.ce=16,@ck.Bn.ak (λs=>al) E c p=true->C E) E c (λa b c s=>g a b c) c
def KH(E:ck):=λp=>if h:E.ce=17 then @ck.Try.ak 7e7 E h p else false
@[elab_as_elim] def Q7 {E p} {C:ck->Prop} (h:KH E p=true) (g:∀a b c d e,p a b c d e=true->C (.Try a b c d e)):C E:=(dt h).ak λc=> @ck.Try.ak (λE=>∀c:E.ce=17,@ck.Try.ak (λs=>al) E c p=true->C E) E c (λa b c d e s=>g a b c d e) c
def Q8(E:ck):=λp=>if h:E.ce=24 then @ck.aZ.ak 7e7 E h p else false
@[elab_as_elim] def adx {E p} {C:ck->Prop} (h:Q8 E p=true) (g:∀a b,p a b=true->C (.aZ a b)):C E:=(dt h).ak λc=> @ck.aZ.ak (λE=>∀c:E.ce=24,@ck.aZ.ak (λs=>al) E c p=true->C E) E c (λa b s=>g a b) c
def Q9(E:ck):=λp=>if h:E.ce=25 then @ck.uG.ak 7e7 E h p else false
@[elab_as_elim] def ady {E p} {C:ck->Prop} (h:Q9 E p=true) (g:∀a,p a=true->C (.uG a)):C E:=(dt h).ak λc=> @ck.uG.ak (λE=>∀c:E.ce=25,@ck.uG.ak (λs=>al) E c p=true->C E) E c (λa s=>g a) c
def xc(E:apw):=λp=>if h:E.ce=0 then @apw.c.ak 7e7 E h p else false
@[elab_as_elim] def xc_ {E p} {C:apw->Prop} (h:xc E p=true) (g:∀a,p a=true->C (.c a)):C E:=(dt h).ak λc=> @apw.c.ak (λE=>∀c:E.ce=0,@apw.c.ak (λs=>al) E c p=true->C E) E c (λa s=>g a) c
def xl(E:apw):=λp=>if h:E.ce=1 then @apw.l.ak 7e7 E h p else false
@[elab_as_elim] def xl_ {E p} {C:apw->Prop} (h:xl E p=true) (g:∀a,p a=true->C (.l a)):C E:=(dt h).ak λc=> @apw.l.ak (λE=>∀c:E.ce=1,@apw.l.ak (λs=>al) E c p=true->C E) E c (λa s=>g a) c
def xg(E:apw):=λp=>if h:E.ce=4 then @apw.g.ak 7e7 E h p else false
@[elab_as_elim] def xg_ {E p} {C:apw->Prop} (h:xg E p=true) (g:∀a,p a=true->C (.g a)):C E:=(dt h).ak λc=> @apw.g.ak (λE=>∀c:E.ce=4,@apw.g.ak (λs=>al) E c p=true->C E) E c (λa s=>g a) c
def Ra(E:apw):=λp=>if h:E.ce=5 then @apw.eY.ak 7e7 E h p else false
@[elab_as_elim] def adz {E p} {C:apw->Prop} (h:Ra E p=true) (g:∀a b,p a b=true->C (.eY a b)):C E:=(dt h).ak λc=> @apw.eY.ak (λE=>∀c:E.ce=5,@apw.eY.ak (λs=>al) E c p=true->C E) E c (λa b s=>g a b) c
def Rb(E:apw):=λp=>if h:E.ce=15 then @apw.X.ak 7e7 E h p else false
@[elab_as_elim] def adA {E p} {C:apw->Prop} (h:Rb E p=true) (g:∀a,p a=true->C (.X a)):C E:=(dt h).ak λc=> @apw.X.ak (λE=>∀c:E.ce=15,@apw.X.ak (λs=>al) E c p=true->C E) E c (λa s=>g a) c
def Rc(E:apw):=λp=>if h:E.ce=18 then @apw.iD.ak 7e7 E h p else false
@[elab_as_elim] def adB {E p} {C:apw->Prop} (h:Rc E p=true) (g:∀a b c d,p a b c d=true->C (.iD a b c d)):C E:=(dt h).ak λc=> @apw.iD.ak (λE=>∀c:E.ce=18,@apw.iD.ak (λs=>al) E c p=true->C E) E c (λa b c d s=>g a b c d) c
def tn(E:Internal.apq):=λp=>if h:E.ce=0 then @Internal.apq.n.ak 7e7 E h p else false
@[elab_as_elim] def Rd {E p} {C:Internal.apq->Prop} (h:tn E p=true) (g:∀a,p a=true->C (.n a)):C E:=(dt h).ak λc=> @Internal.apq.n.ak (λE=>∀c:E.ce=0,@Internal.apq.n.ak (λs=>al) E c p=true->C E) E c (λa s=>g a) c
def tt(E:Internal.apq):=λp=>if h:E.ce=4 then @Internal.apq.t.ak 7e7 E h p else false
@[elab_as_elim] def tt_ {E p} {C:Internal.apq->Prop} (h:tt E p=true) (g:∀a,p a=true->C (.t a)):C E:=(dt h).ak λc=> @Internal.apq.t.ak (λE=>∀c:E.ce=4,@Internal.apq.t.ak (λs=>al) E c p=true->C E) E c (λa s=>g a) c
def abp(E:Internal.S):=λp=>if h:E.ce=2 then @Internal.S.bj.ak 7e7 E h p else false
@[elab_as_elim] def adC {E p} {C:Internal.S->Prop} (h:abp E p=true) (g:∀a,p a=true->C (.bj a)):C E:=(dt h).ak λc=> @Internal.S.bj.ak (λE=>∀c:E.ce=2,@Internal.S.bj.ak (λs=>al) E c p=true->C E) E c (λa s=>g a) c
def abq(E:V):=λp=>if h:E.ce=3 then @V.ag.ak 7e7 E h p else false
@[elab_as_elim] def adD {E p} {C:V->Prop} (h:abq E p=true) (g:∀a,p a=true->C (.ag a)):C E:=(dt h).ak λc=> @V.ag.ak (λE=>∀c:E.ce=3,@V.ag.ak (λs=>al) E c p=true->C E) E c (λa s=>g a) c
def Re(E:PySem.i9):=λp=>if h:E.ce=1 then @PySem.i9.bo.ak 7e7 E h p else false
@[elab_as_elim] def adE {E p} {C:PySem.i9->Prop} (h:Re E p=true) (g:∀a,p a=true->C (.bo a)):C E:=(dt h).ak λc=> @PySem.i9.bo.ak (λE=>∀c:E.ce=1,@PySem.i9.bo.ak (λs=>al) E c p=true->C E) E c (λa s=>g a) c
def Rf(E:PySem.i9):=λp=>if h:E.ce=2 then @PySem.i9.y.ak 7e7 E h p else false
@[elab_as_elim] def adF {E p} {C:PySem.i9->Prop} (h:Rf E p=true) (g:∀a,p a=true->C (.y a)):C E:=(dt h).ak λc=> @PySem.i9.y.ak (λE=>∀c:E.ce=2,@PySem.i9.y.ak (λs=>al) E c p=true->C E) E c (λa s=>g a) c
def KI(E:PySem.i9):=λp=>if h:E.ce=5 then @PySem.i9.ag.ak 7e7 E h p else false
@[elab_as_elim] def Rg {E p} {C:PySem.i9->Prop} (h:KI E p=true) (g:∀a,p a=true->C (.ag a)):C E:=(dt h).ak λc=> @PySem.i9.ag.ak (λE=>∀c:E.ce=5,@PySem.i9.ag.ak (λs=>al) E c p=true->C E) E c (λa s=>g a) c
def Rh(E:PySem.i9):=λp=>if h:E.ce=6 then @PySem.i9.iQ.ak 7e7 E h p else false
@[elab_as_elim] def adG {E p} {C:PySem.i9->Prop} (h:Rh E p=true) (g:∀a,p a=true->C (.iQ a)):C E:=(dt h).ak λc=> @PySem.i9.iQ.ak (λE=>∀c:E.ce=6,@PySem.i9.iQ.ak (λs=>al) E c p=true->C E) E c (λa s=>g a) c
universe e
section
open PySem PySem.W PyProof.Rows PySem.Calls PySem.Spec
set_option backward.match.sparseCases false
def qH:D am:=["~x", "~bits", "~narrow", "~unsigned", "~signed", "~y", "~code", "~first32", "~first64", "~many", "~I64_EXTEND8", "~I32_EXTEND8", "~EXTEND_S", "~I32_EQZ", "~I64_EQZ", "~WRAP", "~EXTEND_U", "~place_in", "~I32_CLZ", "~I64_CLZ", "~len", "~COUNTS", "~narrow_of", "~found", "~I32_ADD", "~I64_ADD", "~REST", "~I32_EQ", "~I64_EQ", "~COMPARES", "~Misused", "~kind", "~HEAP_NAMES", "~I32", "~is_ref", "~BLOCK", "~LOOP", "~IF", "~body", "~ends", "~elses", "~opened", "~at", "~instruction", "~enumerate", "~is_block", "~append", "~ELSE", "~END", "~begin", "~pop", "~octets", "~place", "~octet", "~number", "~size", "~bytes", "~range", "~why", "~Trap", "~value", "~isinstance", "~int", "~bool", "~I64", "~bits_of", "~kinds", "~values", "~all", "~does_fit", "~zip", "~more", "~most", "~greatest", "~rows", "~update", "~a", "~table", "~b", "~d", "~codes", "~sorted", "~_law_widths", "~_law_number", "~_law_three", "~_law_reference", "~to", "~elem", "~goal", "~_law_octets", "~_law_elements", "~both", "~handed", "~script", "~extend", "~_law_deed", "~first", "~sum", "~world", "~k", "~noted", "~HostFunc", "~_law_types", "~types", "~sizes", "~store", "~Sizes", "~CoreStore", "~one", "~other", "~Instance", "~CoreInstance", "~funcs", "~tables", "~memories", "~globals", "~elems", "~datas", "~list", "~items", "~far", "~Func", "~hosts", "~_law_host", "~WasmFunc", "~Table", "~address", "~Memory", "~write", "~cells", "~Cell", "~row", "~stack", "~is_signed", "~some", "~filled", "~old", "~source", "~_law_grown", "~second", "~_law_moved", "~depth", "~_law_called", "~_law_through", "~_law_accessed", "~_law_many", "~tuple", "~_law_does", "~run", "~fault", "~Exhausted", "~forward", "~_law_body", "~_law_world", "~_law_store", "~machine", "~CoreMachine", "~told", "~_law_told", "~Run", "~_law_due", "~steps", "~data", "~cell", "~self", "~Exception", "~__init__", "~page", "~pages", "~elements", "~fuel", "~least", "~bytearray", "~grown", "~REFUSED", "~want_within", "~OUTSIDE_MEMORY", "~want", "~number_of", "~octets_of", "~OUTSIDE_TABLE", "~mutable", "~instance", "~func", "~action", "~do_fit", "~module", "~exports", "~index", "~target", "~arity", "~height", "~is_loop", "~matched", "~places", "~base", "~locals", "~labels", "~Label", "~ahead", "~frames", "~is_broken", "~enter", "~done", "~step", "~is_done", "~count", "~frame", "~here", "~do", "~control", "~local", "~last", "~is_unary", "~reckon1", "~reckon2", "~is_first", "~branch", "~choose", "~branch_by_table", "~give_back", "~UNREACHABLE", "~go", "~carried", "~is_tail", "~lower", "~CALL_STACK", "~default_value", "~Frame", "~peak", "~max", "~known", "~FUEL", "~matches", "~address_in", "~element", "~memory", "~reference", "~table_of", "~UNDEFINED", "~UNINITIALIZED", "~OTHER_KIND", "~is_host", "~hosted", "~open_frame", "~kept", "~get", "~put", "~memory_of", "~LOADS", "~load", "~widened", "~STORES", "~grow", "~drop_data", "~init", "~copy", "~fill", "~drop_elem", "~many_elements", "~locals_now"]
def nm(k:I):am:=(qH[k]?).ge ⟨#[2000000+k]⟩
def adH:qH.dI (λs=>s.cps.dI λc=>I.g4 c 1000000)=true:=ar
def ndB:D I->al:=D.pc true λa l k=>l.dI (λb=>(I.bX a b).oF)&&k
def adI(l:D I):ndB l=true->l.dS:=D.pc (λs=> .aQ) (λa l k h=> .aP (λb m e=>by have g:=D.ib.mp (48e2).1 b m;rw[e,I.qI]at g;cases g) (k (48e2).2)) l
def adJ:qH.dS:=D.tr.of_map (λs:am=>s.cps.f3.iT (λa c=>I.ch (I.mul a 1024) c) 0) (λa b h e=>h (by rw[e])) (adI _ ar)
def r6{a b:I}(h:nm a=nm b):a=b:=by
 unfold nm at h;have p:∀k (x:am),x∈qH->x≠⟨#[2000000+k]⟩:=by
  intro k x v e;have:=D.ib.mp adH x v;rw[e]at a9;simp at a9;lia
 cases r:qH[a]? with
 |L=>
  cases s:qH[b]? with
  |L=>
   rw[r,s]at h;simp only[aq.getD_none,am.mk.fu,bO.mk.fu,D.aP.fu]at h;lia
  |G app=>
   rw[r,s]at h;exact bL h.bh (p _ _ (D.ja s))
 |G x=>
  cases s:qH[b]? with
  |L=>
   rw[r,s]at h;exact bL h (p _ _ (D.ja r))
  |G app=>
   rw[r,s]at h;simp only[aq.getD_some]at h;subst h;show oE (D.gM.mp r) λw m=>?_;show oE (D.gM.mp s) λq n=>?_;exact(D.getElem_inj adJ).mp (m.aU n.bh)
abbrev aV:=D 9e4
def lr:I:=1468
def dT(p:9e4):11e9:=p.1::p.2
def cx(J:aV)(a:aH):Prop:=∃p∈J,a∈24e3
inductive cI {α β:Type} (p:α->β->Prop):D α->D β->Prop
 |aQ:cI p [] []
 |aP {a b l m}:p a b->cI p l m->cI p (a::l) (b::m)
@[elab_as_elim] def fnE.cD {α β:Type} {p:α->β->Prop} {m:D β} {C:∀m,cI p [] m->Prop} (r:cI p [] m) (aQ:C [] .aQ):C m r:=by cases(r);exact aQ
@[elab_as_elim] def fcE.cD {α β:Type} {p:α->β->Prop} {a:α} {l:D α} {m:D β} {C:∀m,cI p (a::l) m->Prop} (r:cI p (a::l) m) (aP:∀{b m} (x:p a b) (app:cI p l m),C (b::m) (.aP x app)):C m r:=by cases(r)with|aP x app=>exact aP x app
section
variable{α β:Type}{p q:α->β->Prop}{l l':D α}{m m':D β}
def cI.f5(f:∀a b,p a b->q a b)(h:cI p l m):cI q l m:=by
 induction h with
 |aQ=>exact .aQ
 |aP a _ ih=>exact .aP (f _ _ a) ih
def cI.cR(h:cI p l m):m.U=l.U:=by
 induction h with
 |aQ=>rfl
 |aP _ _ ih=>exact bB (· +1) ih
def cI.lV(h:cI p l m)(g:cI p l' m'):cI p (l++l') (m++m'):=by
 induction h with
 |aQ=>exact g
 |aP a _ ih=>exact .aP a ih
def cI.rev(h:cI p l m):cI p l.er m.er:=by
 induction h with
 |aQ=>exact .aQ
 |aP a _ ih=>rw[D.Bo,D.Bo];exact ih.lV (265 a)
def cI.fh(h:cI p l m):∀n:I,cI p (l.fh n) (m.fh n):=by
 induction h with
 |aQ=>exact λn=>by rw[D.drop_nil,D.drop_nil];exact .aQ
 |aP a r ih=>exact λn=>I.cD n (.aP a r) ih
def cI.fG(h:cI p l m):∀n:I,cI p (l.fG n) (m.fG n):=by
 induction h with
 |aQ=>exact λn=>by rw[D.take_nil,D.take_nil];exact .aQ
 |aP a r ih=>exact λn=>I.cD n .aQ λn=> .aP a (ih n)
def cI.cM{a:α}{b:β}(r:p a b)(h:cI p l m):∀n:I,cI p (l.cM n a) (m.cM n b):=by
 induction h with
 |aQ=>exact λn=> .aQ
 |aP a h ih=>exact λn=>I.cD n (.aP r h) λn=> .aP a (ih n)
def cI.dL{a:α}(h:cI p l m):∀{k:I},l[k]? =11e3->∃b,m[k]? =G b/\p a b:=by
 induction h with
 |aQ=>exact λe=>19e2
 |aP r _ ih=>exact λ{k}=>match k with
  |0=>λe=>⟨_,H,11e6▸r⟩
  |_+1=>ih
@[elab_as_elim] def cI.KJ {C:D β->Prop} (h:cI p [] m) (c:C []):C m:=by cases h;exact c
@[elab_as_elim] def cI.KM {a:α} {C:D β->Prop} (h:cI p (a::l) m) (c:∀b m,p a b->cI p l m->C (b::m)):C m:=by cases h with|aP r s=>exact c _ _ r s
universe e
inductive RV (J:aV) (h:ai):V->af->Prop
 |aa (v:af):RV J h (.aa v) v
 |bo (b t):RV J h (.bo b t) (.bo b)
 |y (i t tk):RV J h (.y i t) (.y i tk)
 |ag (s tk):RV J h (.ag s) (.ag s tk)
 |cg (b tk):b.U<=16777216->RV J h (.cg b) (.iQ ⟨b⟩ tk)
 |X (l a aO):jk h a ⟨aO⟩->l.U<=16777216->cI (RV J h) l aO->RV J h (.X l) (.N a)
 |ad (l t a aO):h.gW a ⟨aO⟩->¬cx J a->l.U<=16777216->cI (RV J h) l aO->RV J h (.ad l t) (.N a)
 |eh (b a):h.ao a=G ⟨.aA "bytearray",L,.qp ⟨b⟩ 0,#[]⟩->¬cx J a->b.U<=16777216->RV J h (.eh b) (.N a)
 |Z (i:I) (p:aH×D aH):J[i]? =G p->RV J h (.Z i) (.N p.1)
abbrev cw(J:aV)(h:ai):0e0->2e4->Prop:=cI (RV J h)
section
variable{J:aV}{h:ai}{u:af}
@[elab_as_elim] def tH.cD {v} {C:∀u,RV J h (.aa v) u->Prop} (r:RV J h (.aa v) u) (aa:C v (.aa v)):C u r:=by cases(r);exact aa
@[elab_as_elim] def KN.cD {b t} {C:∀u,RV J h (.bo b t) u->Prop} (r:RV J h (.bo b t) u) (bo:C (.bo b) (.bo ..)):C u r:=by cases(r);exact bo
@[elab_as_elim] def vu.cD {i t} {C:∀u,RV J h (.y i t) u->Prop} (r:RV J h (.y i t) u) (y:∀tk,C (.y i tk) (.y ..)):C u r:=by cases(r);exact y _
@[elab_as_elim] def Ri.cD {s} {C:∀u,RV J h (.ag s) u->Prop} (r:RV J h (.ag s) u) (ag:∀tk,C (.ag s tk) (.ag ..)):C u r:=by cases(r);exact ag _
@[elab_as_elim] def xU.cD {b} {C:∀u,RV J h (.cg b) u->Prop} (r:RV J h (.cg b) u) (cg:∀tk s,C (.iQ ⟨b⟩ tk) (.cg _ _ s)):C u r:=by cases(r)with|cg _ _ s=>exact cg _ s
@[elab_as_elim] def KP.cD {l} {C:∀u,RV J h (.X l) u->Prop} (r:RV J h (.X l) u) (X:∀a aO e s x,C (.N a) (.X l a aO e s x)):C u r:=by cases(r)with|X _ _ _ a b c=>exact X _ _ a b c
@[elab_as_elim] def Bp.cD {l t} {C:∀u,RV J h (.ad l t) u->Prop} (r:RV J h (.ad l t) u) (ad:∀a aO p x s e,C (.N a) (.ad l t a aO p x s e)):C u r:=by cases(r)with|ad _ _ _ _ a b c d=>exact ad _ _ a b c d
@[elab_as_elim] def Rj.cD {b} {C:∀u,RV J h (.eh b) u->Prop} (r:RV J h (.eh b) u) (eh:∀a e x s,C (.N a) (.eh b a e x s)):C u r:=by cases(r)with|eh _ _ a b c=>exact eh _ a b c
@[elab_as_elim] def mD.cD {i} {C:∀u,RV J h (.Z i) u->Prop} (r:RV J h (.Z i) u) (Z:∀p s,C (.N p.1) (.Z i p s)):C u r:=by cases(r)with|Z _ _ a=>exact Z _ a
universe e
def nS{α:Type}{a:α}{C:Prop}(e:L=11e3):C:=bL e nofun
def oB{α β:Type}{o:29e6}{f:α->aq β}{b:β}(e:o.cq f=G b){C:Prop}(g:∀a,o=11e3->f a=G b->C):C:=by
 cases o with
 |L=>exact 18e0
 |G a=>exact g a H e
def ap3{α β:Type}{o:29e6}{f:α->β}{b:β}(e:o.aj f=G b){C:38e5}(g:∀a,o=11e3->C (f a)):C b:=by
 cases o with
 |L=>exact 18e0
 |G a=>exact 11e6▸g a H
def oO{α:Type}{o p:29e6}{b:α}(e:o.or p=G b){C:Prop}(g:o=G b->C)(g':p=G b->C):C:=by
 cases o with
 |L=>exact g' e
 |G a=>exact g e
def cS{α:Type}{b:al}{a z:α}{o:29e6}(e:cB b 11e3 o=G z){C:Prop}(g:b=true->a=z->C)(g':b=false->o=G z->C):C:=by
 cases b with
 |false=>exact g' H e
 |true=>exact g H 11e6
def V.i_{v:V}{p}(e:v.i?=5e1):v= .y p.1 p.2:=by
 cases v with
 |y=>exact 11e6▸H
 |_=>exact 18e0
def V.o_{v:V}{p}(e:v.o?=5e1):v= .Z p:=by
 cases v with
 |Z=>exact 11e6▸H
 |_=>exact 18e0
def V.r_{v:V}{p}(e:v.r?=5e1):v= .aa p:=by
 cases v with
 |aa=>exact 11e6▸H
 |_=>exact 18e0
def V.y_{v:V}{p}(e:v.y?=5e1):v= .cg p:=by
 cases v with
 |cg=>exact 11e6▸H
 |_=>exact 18e0
def V.t_{v:V}{p}(e:v.t?=5e1):v= .X p:=by
 cases v with
 |X=>exact 11e6▸H
 |_=>exact 18e0
def V.l_{v:V}{p}(e:v.l?=5e1):v= .ad p.1 p.2:=by
 cases v with
 |ad=>exact 11e6▸H
 |_=>exact 18e0
section
variable{J:aV}{h:ai}{v:V}{u:af}
universe e
def KQ{u:af}(h:py u=true):u= .L:=af.L.ak (wD:=λu=>u= .L) u (I.fZ h) H
def tI(a:K)(k:V):Prop:=∃t,k= .y a t
def tJ(a:am)(k:V):Prop:=k= .ag a
abbrev RK{apv:Type}(f:38e8)(J:aV)(h:ai):5e6->31e8->Prop:=cI λp q=>f q.1 p.1/\RV J h p.2 q.2
abbrev Bq:= @RK K tI
abbrev Br:= @RK am tJ
abbrev lu(J:aV)(h:ai):0e1->26e2->Prop:=cI λp e=>(∃tk,e.cQ= .ag (nm p.1) tk)/\RV J h p.2 e.oR
def adK(c:af):al:=match c with
 | .L=>true
 | .aA n=>n== "code"
 |_=>false
def iu(o:az):al:=I.bX o.be.ce (uU.cn #[]).ce&&adK o.bi
def r7{o:az}(h:∀vs,o.be≠ 27e1):iu o=false:=by
 unfold iu;cases z:I.bX o.be.ce (uU.cn #[]).ce with
 |false=>rfl
 |true=>exact uU.cn.ak (wD:=λd=>(∀vs,d≠ 27e1)->_) o.be (I.fZ z) (λvs h=>bL H (h vs)) h
def Rk{o:az}(h:iu o=true):∀es n,o.be≠ .bv es n:=λes n q=>by
 rw[r7 (λvs e=>nomatch q.bh.aU e)]at h;exact nomatch h
def tK{o:az}{es n}(h:o.be= .bv es n):iu o=false:=57e0
def Bs{o:az}{c}(h:o.be= .dk c):iu o=false:=57e0
def nL:PySem.aZ:=match uH (eg 133)with
 | .pM (G (.jR _ [_,l] _ _)) _::_=>l
 |_=> .D [] ⟨0,0,0,0⟩
def xV:X8:=match nL with
 | .Bt a _ _ _=>a
 |_=>DT (eg 133)
def vv:PySem.aZ:=match nL with
 | .Bt _ b _ _=>b
 |_=> .D [] ⟨0,0,0,0⟩
def ki:cC:=match nL with
 | .Bt _ _ s _=>s
 |_=>DU (eg 133)
def kN:dz:=match nL with
 | .Bt _ _ _ p=>p
 |_=>⟨0,0,0,0⟩
def oS:am:= "_law_host.<locals>.<lambda>"
def Rl:nL= .Bt xV vv ki kN:=ar
def nM(h:ai)(c:aH)(q:am):Prop:=∃o vs t,h.ao c=0e4/\o.bi= 53e1 /\o.be= 27e1/\vs[1]? =14 q t
def lW:aH:=1391
def qJ(h:ai):Prop:=∃ps,h.ao lW=G (PySem.W.apw.Rm ps)/\(ps= #[]\/∃c,ps= #[iC kN.iF,iC kN.col,.N c]/\nM h c oS)
def jr(h h':ai):Prop:=∀a o,14e4=0e4->iu o=true->18e4=0e4
def Bu{o:az}{vs:16e5}(h:o.bi= 53e1)(d:o.be= 27e1):iu o=true:=by
 unfold iu;rw[h,d];rfl
def jr.dG{h h':ai}(k:jr h h'){c:aH}{q:am}:nM h c q->nM h' c q:=(by intro s;(show kX s λo vs t e a b r=>?_;try clear s);exact⟨o,vs,t,k c o e (Bu a b),a,b,r⟩)
def jr.Y{h h':ai}(k:jr h h'):qJ h->qJ h':=(by intro s;(show aM s λps e r=>?_;try clear s);exact⟨ps,k _ _ e H,r.f5 id (by intro s;(show aM s λc a b=>?_;try clear s);exact⟨c,a,k.dG b⟩)⟩)
structure Bv(fd:jB)(c1 c2 cc:aH):Prop where
 cW:fd.cW= .xW vv
 br:fd.br=ki
 bU:fd.bU=xV
 rk:fd.rk=[(nm 100,c2),(nm 31,c1)]
 dG:fd.dG= .N cc
 pt:fd.pb=oS
 g8:fd.g8=iB
 jC:fd.jC=mU
 zO:fd.zO= .L
 DV:fd.DV= .L
inductive adL (J:aV) (h:ai) (p:aH×D aH) (k i:V):Prop
 |mk (fd:jB) (c1 c2:aH) (u1 u2:af) (e0:p.2=[c1,c2]) (e1:h.ao p.1=G ⟨.aA "function",L,.mi fd,#[]⟩) (apt:∃cc,Bv fd c1 c2 cc/\nM h cc oS) (i1:h.pO c1 (G u1)) (i2:h.pO c2 (G u2)) (r1:RV J h k u1) (r2:RV J h i u2)
inductive RTb (h:ai) (aC:D aH) (vs:bO af):Prop
 |mk (tb:aH) (ot:az) (pP:bO af) (e:aC=[tb]) (h1:vs[1]? =G (.N tb)) (h2:h.ao tb=G ot) (h3:ot.bi= .aA "traceback") (h4:ot.be= .cn pP) (h5:4<pP.an)
inductive adM (J:aV) (h:ai) (p:aH×D aH) (C:aH) (d:D (I×V)):Prop
 |mk (hl:d.U<=1000) (dx:aH) (aC:D aH) (es:D iO) (n:I) (vs:bO af) (sl:bO (aq af)) (e0:p.2=dx::aC) (e1:h.ao p.1=G ⟨.N C,G dx,.cn vs,sl⟩) (e2:h.ao dx=G (hJ es n)) (r:lu J h d es) (hv:vs.an=6)
   (tb:(aC=[]/\vs[1]? =G .L)\/RTb h aC vs)
inductive adN (J:aV) (h:ai) (p:aH×D aH) (C:aH) (d:D (I×V)):Prop
 |mk (hl:d.U<=1000) (dx:aH) (es:D iO) (n:I) (sl:bO (aq af)) (e0:p.2=[dx]) (e1:h.ao p.1=G ⟨.N C,G dx,.th,sl⟩) (e2:h.ao dx=G (hJ es n)) (r:lu J h d es)
def DK(w:eA)(J:aV)(h:ai)(o:az)(l:5e6):Prop:=(∃bK,o.qK (oC pw w) bK/\Bq J h l bK)\/∃bK,o.qK (tL pw w) bK/\Br J h l bK
def RO(w:eA)(J:aV)(h:ai)(p:9e4):aps->Prop
 | .ay l _=>p.2=[]/\l.U<=16777216/\∃aO,h.j8 p.1 32e6/\cw J h l aO
 | .au l=>p.2=[]/\l.U<=16777216/\∃aO,h.j8 p.1 32e6/\cw J h l.er aO
 | .bv l=>p.2=[]/\l.U<=1000/\∃o,h.ao p.1=0e4/\DK w J h o l
 | .bu C d=>adN J h p C d
 | .eF b=>p.2=[]/\b.U<=16777216/\h.ao p.1=G (315 26e7 (.qp 20e6 0))
 | .cV k i=>adL J h p k i
 | .a7 C d=>adM J h p C d
structure Fx where
 w:eA
 A:df
 ab:ez
 os:OsState
 fz:al
def fr(x:Fx)(a:aH):Prop:=a=x.ab.cX\/(x.fz=false/\∃n,(n,a)∈x.ab.b2)
inductive FAt (ap4:aq (D ez)) (a:aH):Prop
 |mk (l:D ez) (hl:ap4=G l) (e:ez) (he:e∈l) (hf:e.eb=G a)
def FA(x:Fx)(a:aH):Prop:=FAt x.A.dX a
structure Kp(J aB:aV)(x:Fx)(h h':ai):Prop where
 bR:∀a o,h.ao a=G o->iu o=false->¬FA x a->¬fr x a->¬cx J a->h'.ao a=G o
 js:∀a o,h.ao a=G o->FA x a->¬fr x a->∃o',h'.ao a=G o'/\o'.bi=o.bi/\o'.be=o.be
 iV:∀a o,h.ao a=G o->iu o=true->a≠lW->h'.ao a=G o
 g5:∀a o,h.ao a=G o->∃o',h'.ao a=G o'
 fk:∀a,cx aB a->h.ao a=L
inductive adO (x:ez) (J:aV) (h:ai) (T:D (I×V)):Prop
 |mk (m:am->aq af) (hn:h.Ns x.cX m) (hm:∀k v,x.dA (nm k)=G .cU->lk T k=G v->∃u,m (nm k)=G u/\RV J h v u)
inductive adP (x:ez) (J:aV) (h:ai) (k:I) (v:V):Prop
 |mk (c:aH) (u:af) (e:x.b2.bY (nm k)=G c) (i:h.pO c (G u)) (r:RV J h v u) (no:¬cx J c)
structure Bw(x:Fx)(J:aV)(h:ai)(T:D (I×V)):Prop where
 iN:adO x.ab J h T
 eU:∀k v,(x.ab.dA (nm k)=G .dk\/x.ab.dA (nm k)=G .eG)->lk T k=G v->adP x.ab J h k v
inductive r8 (h:ai) (e:ez):Prop
 |mk (aqO:e.br.d8= .jJ) (apt:aH) (o:az) (e1:e.eb=G apt) (e2:h.ao apt=G o) (es:bO iO) (n:I) (e3:o.be= .bv es n)
structure aJ(x:Fx)(J:aV)(F:MS)(s:ae):Prop where
 d7:g9 s.M (KL x.w.bU)
 cR:J.U=F.O.U
 O:∀(i:I) (o:aps) (p:aH×D aH),F.O[i]? =G o->J[i]? =G p->RO x.w J s.M p o
 nd:(J.tM dT).dS
 gy:∀a,cx J a->lr<=a
 up:∀a,cx J a->a<s.M.O.an
 bp:Bw x J s.M F.T
 bH:∀a,fr x a->¬cx J a
 hK:∀a,fr x a->lr<=a
 b2:(x.ab.b2.aj (·.2)).dS/\(x.ab.b2.aj (·.1)).dS/\∀n,(n,x.ab.cX)∉x.ab.b2
 hj:x.fz=false->∀n c,(n,c)∈x.ab.b2->∃w,s.M.pO c w
 gz:∀l,x.A.dX=G l->∀e∈l,r8 s.M e
 fx:∀a,FA x a->lr<=a/\¬cx J a
 dC:s.dC= #[]
 os:s.os=x.os
 cV:qJ s.M
structure Fx.Ok(x:Fx)(d:I):Prop where
 fn:x.ab.br.d8= .jJ
 vw:x.ab.g8=iB
 jN:x.ab.jC=mU
 vx:∀n,(x.ab.dA n=G .dk\/x.ab.dA n=G .eG)->(x.ab.b2.bY n).iq=true
 g7:x.A.g7+2*d+2<DG
 jb:x.A.jb+20*d+20<cLine
 e8:x.A.e8=L
 j5:x.A.j5=G []
 dX:∃l,x.A.dX=G l/\(x.fz=false->∃l',l=x.ab::l'/\x.ab.eb=G x.ab.cX)
 iD:x.fz=true->x.ab.br.bp.bY (".0" :am)=G .cU
def Kp.b7(J:aV)(x:Fx)(h:ai):Kp J [] x h h:=⟨λs s e s s s s=>e,λs o e s s=>⟨o,e,H,H⟩,λa o e s s=>e,λa o e=>⟨o,e⟩,(by intro a b;(show aM b λp r s=>?_;try clear b);exact nomatch r)⟩
def jt{J aB:aV}{a:aH}:68 (J++aB) ↔ 14e2\/68 aB:=by
 constructor
 ·intro e;(show aM e λp x s=>?_;try clear e);rcases D.lI.mp x with h|h
  ·exact .a2 ⟨p,h,s⟩
  ·exact 247 p h s
 ·intro e;rcases e with⟨p,x,s⟩|⟨p,x,s⟩
  ·exact⟨p,D.w0 _ x,s⟩
  ·exact⟨p,D.uM _ x,s⟩
def Kp.aU{J s m2:aV}{x:Fx}{h p h2:ai}(a:Kp J s x h p)(b:Kp (J++s) m2 x p h2):Kp J (s++m2) x h h2:=by
 show⟨λc o e t f hL r=>b.bR c o (a.bR c o e t f hL r) t f hL λq=>?_,λc o e f hL=>?_,λc o e t n=>b.iV c o (a.iV c o e t n) t n,λc o e=>?_,λc v=>?_⟩
 ·rcases 46e3 with q|q
  ·exact r q
  ·exact 224 (a.fk c q) e
 ·show dU (a.js c o e f hL) λo1 e1 c1 d1=>?_;show dU (b.js c o1 e1 f hL) λo2 e2 c2 k=>?_;exact⟨o2,e2,c2.aU c1,k.aU d1⟩
 ·show oE (a.g5 c o e) λo1 e1=>?_;exact b.g5 c o1 e1
 ·rcases jt.mp v with q|q
  ·exact a.fk c q
  ·cases m:h.ao c with
   |L=>rfl
   |G o=>
    show oE (a.g5 c o m) λo1 e1=>?_;exact 224 (b.fk c q) e1
structure f8(J xX:aV)(h h':ai):Prop where
 X:∀a aO,jk h a aO->jk h' a aO
 ad:∀a aO,h.gW a aO->¬cx J a->h'.gW a aO/\¬cx xX a
 eh:∀a b n,h.ao a=G ⟨.aA "bytearray",L,.qp b n,#[]⟩->¬cx J a->h'.ao a=G ⟨.aA "bytearray",L,.qp b n,#[]⟩/\¬cx xX a
 Z:∀(i:I) p,J[i]? =G p->∃q,xX[i]? =G q/\q.1=p.1
 KR:∀c q,nM h c q->nM h' c q
def dN{J n:aV}{h h':ai}(k:f8 J n h h'):∀{v:V} {u:af},22e2->RV n h' v u:=by
 intro v u r;show RV.pc (motive_1:=λv u m=>RV n h' v u) (KS:=λl us m=>cw n h' l us) ?_ ?_ ?_ ?_ ?_ ?_ ?_ ?_ ?_ ?_ ?_ r
 ·exact λv=> .aa v
 ·exact λb t=> .bo b t
 ·exact λi t tk=> .y i t tk
 ·exact λs tk=> .ag s tk
 ·exact λb tk x=> .cg b tk x
 ·exact λl a aO e x m ih=> .X l a aO (k.X _ _ e) x ih
 ·exact λl t a aO e o x m ih=> .ad l t a aO (k.ad _ _ e o).1 (k.ad _ _ e o).2 x ih
 ·exact λb a e o x=> .eh b a (k.eh _ _ _ e o).1 (k.eh _ _ _ e o).2 x
 ·exact λi p e=>by
   show aM (k.Z i p e) λq w h=>?_;rw[<-h];exact .Z i q w
 ·exact .aQ
 ·exact λm m a b=> .aP a b
def hM{J s:aV}{h h':ai}(k:f8 J s h h'){l:0e0}{us:2e4}:83 l->cw s h' l us:= .f5 λx x=>dN k
def tN{J s:aV}{h h':ai}(k:f8 J s h h'){apv:Type}{f:38e8}{l:5e6}{es:31e8}:RK f J h l es->RK f s h' l es:= .f5 λx x r=>⟨r.1,dN k r.2⟩
def xY{J s:aV}{h h':ai}(k:f8 J s h h'){l:0e1}{es:26e2}:lu J h l es->lu s h' l es:= .f5 λx x r=>⟨r.1,dN k r.2⟩
def iw{J:aV}{h:ai}{l:0e0}{us:2e4}(r:83 l):us.U=l.U:=r.cR
section
variable{x:Fx}{J aB:aV}{F:MS}{s:ae}
@[elab_as_elim] def xZ {p a:aH} {P:aH->Prop} (m:a∈dT (p,[])) (h:P p):P a:=D.cY.mp m▸h
@[elab_as_elim] def Bx {p b a:aH} {P:aH->Prop} (m:a∈dT (p,[b])) (h:P p) (s:P b):P a:=(D.eR.mp m).ak (λe=>e▸h) λm=>D.cY.mp m▸s
@[elab_as_elim] def tO {p b c a:aH} {P:aH->Prop} (m:a∈dT (p,[b,c])) (h:P p) (s:P b) (h2:P c):P a:=(D.eR.mp m).ak (λe=>e▸h) λm=>Bx m s h2
def vy(h:ai)(l:11e9):Prop:=∀a∈l,∃ob,14e4=G ob/\(ob.bi≠ 26e5 \/∀xs n,ob.be≠ .cG xs n)
def vy.aQ{h:ai}:vy h []:=λs m=>nomatch m
def vy.aP{h:ai}{a:aH}{l:11e9}{ob:az}(e:14e4=G ob)(n:ob.bi≠ 26e5 \/∀xs n,ob.be≠ .cG xs n)(r:vy h l):vy h (a::l):=λb m=>(D.eR.mp m).ak (λq=>q▸⟨_,e,n⟩) (r b)
def Ro{w:eA}{J:aV}{h:ai}{p:9e4}{o:aps}(z:RO w J h p o):vy h 24e3:=by
 unfold dT;cases o with
 |ay=>(show gp z λq s s x s=>?_;try clear z;(show oE x λs e=>?_;try clear x));rw[q];exact .aP e (.a2 (show 51e4 ≠ 26e5 from ap)) .aQ
 |au=>(show gp z λq s s x s=>?_;try clear z;(show oE x λs e=>?_;try clear x));rw[q];exact .aP e (.a2 (show 51e4 ≠ 26e5 from ap)) .aQ
 |bv=>
  show gp z λq s o' e z=>?_;rw[q];show .aP e (.aD λxs n=>?_) .aQ;rcases z with⟨_,⟨_,_,_,hd,_⟩,_⟩|⟨_,⟨_,_,_,hd,_⟩,_⟩<;>exact hd▸nofun
 |eF=>rw[z.1];exact 371 z.2.2 .aQ
 |cV=>obtain(⟨_,_,_,_,_,q,e,_,⟨_,f1,d1⟩,⟨_,f2,a⟩,_⟩):=z;rw[q];exact 371 e (.aP f1 (.aD (d1▸nofun)) (.aP f2 (.aD (a▸nofun)) .aQ))
 |bu=>obtain(⟨_,_,_,_,_,q,e1,e2,_⟩):=z;rw[q];exact 371 e1 (371 e2 .aQ)
 |a7=>
  obtain(⟨_,_,aC,_,_,_,_,q,e1,e2,_,_,tb⟩):=z;rw[q];show 371 e1 (371 e2 ?_);rcases tb with⟨r,_⟩|⟨_,_,_,r,_,e3,_,e4,_⟩<;>rw[r]
  ·exact .aQ
  ·exact .aP e3 (.aD (e4▸nofun)) .aQ
def aJ.b9(R:0e9){a:aH}(h:14e2):∃ob,4e4=G ob/\(ob.bi≠ 26e5 \/∀xs n,ob.be≠ .cG xs n):=by
 (show aM h λp b r=>?_;try clear h);obtain⟨i,e,H⟩:=D.adQ b;exact Ro (R.O i _ J[i] (D.ic (R.cR▸e)) (D.ic e)) a r
def aJ.By(R:0e9){a:aH}(h:14e2){o:az}(e:4e4=0e4)(xs n)(hd:o.be= .cG xs n):o.bi≠ 26e5 :=by
 show aM (R.b9 h) λob b z=>?_;cases aq.G.cE (e.bh.aU b);exact z.ak id λz=>bL hd (z xs n)
def r8.eH{h h':ai}{e:ez}(f:r8 h e)(k:∀a o,e.eb=11e3->14e4=0e4->∃o',18e4=G o'/\o'.be=o.be):r8 h' e:=by
 obtain(⟨s,apt,o,e1,e2,es,n,e4⟩):=f;show aM (k apt o e1 e2) λo' f1 x=>?_;exact⟨s,apt,o',e1,f1,es,n,x.aU e4⟩
def aJ.lv(R:0e9){a:aH}{o:az}(e:4e4=0e4)(hd:∀es n,o.be≠ .bv es n):¬FA x a:=by
 intro p;obtain(⟨l,h,v,r,b⟩):=p;obtain(⟨_,apt,o',e1,e2,es,n,e3⟩):=R.gz l h v r;rw[b]at e1;cases e1;rw[e]at e2;cases e2;exact hd es n e3
def aJ.tP(R:0e9){a:aH}(h:fr x a){o:az}(e:4e4=0e4):(∀xs n,o.be≠ .cG xs n)/\(∀xs n,o.be≠ .qp xs n)/\iu o=false:=by
 rcases h with H|⟨hz,n,r⟩
 ·obtain(⟨m,⟨o',es,ep,b,hd,_⟩,_⟩):=R.bp.iN;cases aq.G.cE (e.bh.aU b);exact⟨hd▸nofun,hd▸nofun,tK hd⟩
 ·show gd (R.hj hz n a r) λw o' b hd=>?_;cases aq.G.cE (e.bh.aU b);exact⟨hd▸nofun,hd▸nofun,Bs hd⟩
def aJ.KT(R:0e9){c:aH}{o:az}(e:37e1=0e4)(a:o.bi= 53e1):c≠lW:=by
 intro b;subst b;show aM R.cV λps h r=>?_;rw[h]at e;cases e;cases a
def aJ.eH(R:aJ x J F s){m2:aV}{h':ai}(k:Kp J m2 x s.M h'):f8 J (J++m2) s.M h' where
 X a aO e:=by
  (show gD e λo h m n hd=>?_;try clear e);exact⟨o,k.bR a o h (r7 λvs q=>by rw[hd]at q;cases q) (R.lv h λes n q=>by rw[hd]at q;cases q) (λq=>(R.tP q h).1 _ _ hd) (λq=>R.By q h _ _ hd m),m,n,hd⟩
 ad a aO e o:=by
  (show gD e λob h m n hd=>?_;try clear e);exact⟨⟨ob,k.bR a ob h (r7 λvs q=>by rw[hd]at q;cases q) (R.lv h λes n q=>by rw[hd]at q;cases q) (λq=>(R.tP q h).1 _ _ hd) o,m,n,hd⟩,λq=>(jt.mp q).ak o λq=>nN ((k.fk a q).bh.aU h)⟩
 eh a aO n e o:=⟨k.bR a _ e H (R.lv e λes n q=>by cases q) (λq=>(R.tP q e).2.1 _ _ H) o,λq=>(jt.mp q).ak o λq=>nN ((k.fk a q).bh.aU e)⟩;Z i p e:=⟨p,by rw[D.kO (D.gM.mp e).1];exact e,H⟩;KR c q e:=(by show kX e λo vs t e a b r=>?_;exact⟨o,vs,t,k.iV c o e (Bu a b) (R.KT e a),a,b,r⟩)
def aJ.rv(R:0e9){m2:aV}{h':ai}(k:70 m2 h'){v:V}{u:af}(r:15e7):RV (J++m2) h' v u:=dN (R.eH k) r
def aJ.Rp(R:0e9){m2:aV}{h':ai}(k:70 m2 h'){v:0e0}{u:2e4}(r:cw J s.M v u):cw (J++m2) h' v u:=hM (R.eH k) r
def aJ.a0(R:0e9)(t:I):229 F 54e8:=⟨R.d7,R.cR,R.O,R.nd,R.gy,R.up,R.bp,R.bH,R.hK,R.b2,R.hj,R.gz,R.fx,R.dC,R.os,R.cV⟩
universe e
section
variable{α β γ δ:Type}
def x4(J:aV)(F:MS)(i:I):Prop:=J.U<=i/\∃C d,22e1 =G (.a7 C d)
def aG(x:Fx)(J:aV)(s:ae)(r:3e3)(bq:17e8)(Q:12e2)(EE:0e5):Prop:=match r with
 | .aS a F ob=>51e9/\∀aB s' u,206 F->38e6->bq (J++aB) s'.M a u->Q u s'
 | .a7 i F ob=>51e9/\∀aB s' u,x4 J F i->206 (4 F.O F.bE)->38e6->RV (J++aB) s'.M 15e9 u->EE u s'
 | .no _=>fR
variable{x:Fx}{J aB:aV}{s s1:ae}{r:R α}{bq:aV->ai->α->β->Prop}{Q:β->ae->Prop}{EE:af->ae->Prop}{F:MS}
def aG.ch{o:6e1}(P:11 (r.ch o)):(∀p∈o,p)/\27e7:=by
 cases r with
 |aS a F ob=>exact⟨λp h=>P.1 p (D.w0 _ h),λp h=>P.1 p (D.uM _ h),P.2⟩
 |a7 a F ob=>exact⟨λp h=>P.1 p (D.w0 _ h),λp h=>P.1 p (D.uM _ h),P.2⟩
 |no=>exact P.ak
def aG.qL(P:27e7)(apv:70 aB s1.M):aG x (J++aB) s1 r bq Q EE:=by
 cases r with
 |aS a F ob=>exact⟨P.1,λm2 s' u R h r=>P.2 (aB++m2) s' u (385 R) (apv.aU h) (385 r)⟩
 |a7 a F ob=>exact⟨P.1,λm2 s' u e R h r=>P.2 (aB++m2) s' u ⟨by have:=e.1;rw[D.hN]at a9;exact I.Rq a9,e.2⟩ (385 R) (apv.aU h) (385 r)⟩
 |no=>exact P.ak
def aG.aE{f:α->MS->R γ}{e:199 γ δ}{h:38e3}(P:100 34e7 e h)
  (apz:∀a aR aB s1 u,295 aR s1->70 aB s1.M->bq (J++aB) s1.M a u->aG x (J++aB) s1 (f a aR) e h EE->Q u s1):27e7:=by
 cases r with
 |aS a F ob=>exact⟨(26e9).1,λaB s' u R apv r=>apz a F aB s' u R apv r ((26e9).2.qL apv)⟩
 |a7 a F ob=>exact P
 |no=>exact P.ak
def aG.bj{a:α}(P:11 (7 a)){s':ae}{u:β}(R:229 F s')(apv:70 [] s'.M)(r:bq J s'.M a u):Q u s':=
 P.2 [] s' u (298 R) apv (298 r)
def aG.jS{a:α}(P:11 (7 a)){u:β}(R:0e9)(t:I)(r:bq J s.M a u):Q u 54e8:=
 P.bj (s':=54e8) (R.a0 t) (Kp.b7 ..) r
def aG.fJ{a:α}(P:11 (7 a)){u:β}(R:0e9)(r:bq J s.M a u):Q u s:=P.bj R (Kp.b7 ..) r
universe e
def RB(_:aV)(_:ai)(b c:al):Prop:=b=c
inductive RF (J:aV) (h:ai):A->iK->Prop
 |next:RF J h (.f .bz) .bz
 |bj {v u}:RV J h v u->RF J h (.f (.bj v)) (.bj u)
section
variable{α β γ δ:Type}{x:Fx}{J:aV}{s:ae}{bq:aV->ai->γ->δ->Prop}{Q:δ->ae->Prop}{EE:af->ae->Prop}{F:MS}
def oT{p:Prop}(h:∀q∈ [p],q):p:=h p 28e6
def aG.oU{a:α}{f:α->MS->R γ}(P:11 ((R.Y a F).aE f)):11 (f a F):=by
 exact 26e3
def aG.nO{a:α}{ob:6e1}{f:α->MS->R γ}(P:11 ((R.aS a F ob).aE f)):51e9/\11 (f a F):=26e9
def adR{op:rI}{a b:K}{t:al}{f:ey->MS->R γ}(P:11 ((Qq op a b t F).aE f)):a8 op a b=true/\11 (f () F):=by
 have cQ:∀e,11 ((match t with
  |true=> .aS () F [a8 e a b=true]
  |false=>match a8 e a b with
   |true=> 40e5
   |false=> .no 6:26e1).aE f)->a8 e a b=true/\11 (f () F):=by
  intro e P;cases t with
  |true=>exact⟨53e0,P.nO.2⟩
  |false=>
   cases h:a8 e a b with
   |true=>rw[h]at P;exact(238 P.oU)
   |false=>rw[h]at P;exact P.ak
 cases op<;>first|exact⟨H,P.oU⟩|exact cQ _ P
universe e
section
variable{x:Fx}{J:aV}{s:ae}{Q:af->ae->Prop}{EE:af->ae->Prop}{F:MS}
def KU{a:K}(h:a.ty<2^64):Builtin.K.Rr a<=64:=intBits_le h
def adS{op:rI}{a b k:K}{t u:al}{h tb:Tok}(e:binI op a b=G k)(R:0e9)(g:a8 op a b=true)(P:187 (.y k t)):
  102 (Bz op (.y a h) (.y b tb)):=by
 have ef:Q (.y k s.a0) 42e1:=P.jS R _ (.y k t _);clear P;cases op<;>first|exact nS e|cases aq.G.cE e
 ·exact add_int ef
 ·exact sub_int ef
 ·exact mul_int ef ((al.tQ.mp g).ak (λg=> .of_left (KU (fo g))) λg=> .of_right (KU (fo g)))
 ·exact mod_int' (fo g) ef
 ·obtain⟨g1,g3⟩:=ba g;clear e;have g2:=fo (ba g1).2;have g1:=fo (ba g1).1;show pow_int g1 ?_ ef;have h1:=KU (fo g3);have h2:(Builtin.K.Rr a:K)<=64:=by exact I.BB.KX H H h1
  have h3:(Builtin.K.Rr a:K)*b<=64*1000:=K.mul_le_mul h2 g2 g1 (394 64);lia
 ·exact lshift_int_small (fo (ba (ba g).1).1) (fo (ba (ba g).1).2) (fo (ba g).2) ef
 ·exact rshift_int (fo g) ef
 ·exact or_int ef
 ·exact and_int ef
 ·show floordiv_int (fo (ba g).1) ef (.a2 (PyProof.noPylong_of_log2 ?_));by_cases h0:b.ty=0
  ·rw[h0];decide+cm
  ·have:=(I.log2_lt h0).bl (fo (ba g).2);lia
universe e
universe e
section
open PySem PySem.W PyProof.Rows PySem.Calls PySem.Spec PySem.SeqAt
set_option backward.match.sparseCases false
section
variable{x:Fx}{J:aV}{s:ae}{EE:af->ae->Prop}{F:MS}
def BD(h:ai)(u:af)(d:cj)(n:I):Prop:=(∃as,Reads h u d as)/\d.ju=true/\d.g7<=n
def adT(h:ai)(us:2e4)(ds:D cj)(n:I):Prop:=(∃as,ReadsAll h us ds as)/\cj.qM ds=true/\cj.Rs ds<=n
def Rt{f:V->aq cj}(ih:∀v u d,f v=G d->22e2->BD h u d n)(r:83 l):∀{ds:D cj},h8 f l=G ds->adT h us ds n:=by
 induction r with
 |aQ=>intro ds e;obtain H:=11e6;exact⟨⟨[],.aQ⟩,by simp only[cj.qM],by simp only[cj.Rs];exact 32e0⟩
 |aP r _ x=>
  intro ds e;show aM 36e4 λd e1 e=>?_;(show aM 31e1 λds e2 s=>?_;subst s);have a:=ih _ _ _ e1 r;have b:=x e2;exact⟨⟨_,.aP a.1.jT b.1.jT⟩,by simp only[cj.qM,a.2.1,b.2.1,al.Ru],by simp only[cj.Rs];exact I.max_le.bl ⟨a.2.2,b.2.2⟩⟩
def aps.Rv(e:o.sq=G l)(r:RO w J h p o):∃aO,h.j8 p.1 32e6/\cw J h l aO/\p.2=[]/\l.U<=16777216:=by
 cases o with
 |ay m t=>obtain H:=11e6;exact⟨_,r.2.2.jT.1,r.2.2.jT.2,r.1,r.2.1⟩
 |au m=>obtain H:=11e6;exact⟨_,r.2.2.jT.1,r.2.2.jT.2,r.1,m.lx▸r.2.1⟩
 |_=>exact 19e2
def d0(r:Reads h u d as)(c:d.ju=true)(z:d.g7=0):BD h u d n:=⟨⟨_,r⟩,c,z▸32e0⟩
def BE(R:0e9)(n:I):∀(v:V) (u:af) (d:cj),eN n F.O v=G d->15e7->BD s.M u d n:=by
 induction n with
 |i4=>exact λf f f e=>19e2
 |hH n ih=>
  intro v u d e r;have app:∀{l:0e0} {us:2e4} {a:aH},151 a us->169 l->(110 n F.O l).aj .ay=G d->BD s.M 2e2 d (n+1):=by
   intro l us a h k e;(show gD h λo w c m hd=>?_;try clear h);(show aM 31e1 λds e1 j=>?_;subst j);have z:=Rt ih k e1;exact(422 ⟨_,.ay w c hd z.1.jT⟩)
  cases r with
  |aa=>
   cases u with
   |L=>obtain H:=11e6;exact 418 .L
   |_=>exact 19e2
  |bo b t=>obtain H:=11e6;exact 418 (.bo b)
  |y b t=>obtain H:=11e6;exact 418 (.y b _)
  |ag b t=>
   have e:cB (cj.rL b) (G (cj.ag b)) L=G _:=e;cases q:cj.rL b with
   |false=>rw[q]at e;exact 19e2
   |true=>rw[q]at e;obtain H:=11e6;exact d0 (.ag b _) (by simp only[cj.ju,q]) (by simp only[cj.g7])
  |cg=>exact 19e2
  |eh=>exact 19e2
  |X l a aO h g k=>
   (show gD h λo w c m hd=>?_;try clear h);(show aM 31e1 λds e1 j=>?_;subst j);have z:=Rt ih k e1;exact(422 ⟨_,.qy w c hd z.1.jT⟩)
  |ad l t a aO h w g k=>exact app h k e
  |Z i p P=>
   show aM 36e4 λl e1 e=>?_;show aM (aq.k7.mp e1) λo q e1=>?_;have z:=aps.Rv e1 (R.O i o p q P);exact app z.jT.1.iG z.jT.2.1 e
def adU{Q:0e5}(Y:3e6)(R:0e9)(r:eN 12 F.O a=G da)(p:eN 12 F.O b=G db)(m:17 a ua)(rb:17 b ub)
  (h:257 (cj.eqv da db) s):192 .Eq ua ub:=by
 (show hT (BE R _ _ _ _ r m) λe r2 r3=>?_;(show oE e λk r1=>?_;try clear e));(show hT (BE R _ _ _ _ p rb) λe k2 k3=>?_;(show oE e λk k1=>?_;try clear e));show compareEq_reads r1 k1 r2 k2 ?_ h;exact I.x5 (I.BF (I.tR _ (20*d)) (I.dV (I.KZ ..) (I.dV r3 ap))) Y.jb
def adV{Q:0e5}(Y:3e6)(R:0e9)(r:eN 12 F.O a=G da)(p:eN 12 F.O b=G db)(m:17 a ua)(rb:17 b ub)
  (h:257 (!cj.eqv da db) s):192 .gK ua ub:=by
 (show hT (BE R _ _ _ _ r m) λe r2 r3=>?_;(show oE e λk r1=>?_;try clear e));(show hT (BE R _ _ _ _ p rb) λe k2 k3=>?_;(show oE e λk k1=>?_;try clear e));show compareNe_reads r1 k1 r2 k2 ?_ h;exact I.x5 (I.BF (I.tR _ (20*d)) (I.dV (I.KZ ..) (I.dV r3 ap))) Y.jb
universe e
def Rw{bb:gR}{w:eA}{apv:Type}[qN apv]{gY:x6 bb w apv}{h:ai}{a:aH}{bK:31e8}(d:h.qO gY a bK):(bK.aj (·.1)).dS:=by
 (show sO d λs s s s s s s s x=>?_;try clear d);exact x
section
variable{x:Fx}{J:aV}{s:ae}{EE:af->ae->Prop}{F:MS}
def nD(x:Fx)(J:aV)(h:ai)(u:af)(l:5e6):Prop:=
 ∃a,u= 2e2/\(a==tq)=false/\((∃bK,h.qO (oC pw x.w) a bK/\Bq J h l bK)\/(∃bK,h.qO (tL pw x.w) a bK/\Br J h l bK))
def BG(J:aV)(h:ai)(o:9e6)(o':12e4):Prop:=match o with
 |G v=>∃u,o'=G u/\22e2
 |L=>o'=L
def BH:tI a k->tI b k'->mZ k k'=bJ (a=b):=by intro x h;(show oE x λe s=>?_;try clear x;subst s);(show oE h λe s=>?_;try clear h;subst s);rfl
def BI:tJ a k->tJ b k'->mZ k k'=bJ (a=b):=by intro h s;subst h;subst s;rfl
def Rx{apv:Type}[qN apv]{f:38e8}(e:∀{a b k s},f a k->f b s->mZ k s=bJ (a=b)){h:ai}{a:apv}{k:V}(x:f a k){l:5e6}{bK:31e8}(r:RK f J h l bK):BG J h (lkV l k) (valueAt bK a):=by
 induction r with
 |aQ=>rfl
 | @aP p q l bK r _ ih=>
  refine BG J h (match mZ p.1 k with|true=>37e7|false=>lkV l k) (aq.aj (·.2) (match bJ (q.1=a)with|true=>G q|false=>bK.nv _));rw[e r.1 x];cases bJ (q.1=a)with
  |true=>exact⟨_,H,r.2⟩
  |false=>exact ih
def adW{h:ai}{o:az}{bK:284 af}{w:eA}(d:o.qK (tL pw w) bK)(e:bK=[]):o.qK (oC pw w) []:=by
 subst e;(show uC d λes ep h1 h2 h3 s a=>?_;try clear d);clear h3;obtain⟨es⟩:=es;cases s;exact⟨#[],ep,h1,h2,λe x=>by simp at x,.aQ,D.kP⟩
def adX{h:ai}{o:az}{bK:D (K×af)}{w:eA}(d:o.qK (oC pw w) bK)(e:bK=[]):o.qK (tL pw w) []:=by
 subst e;(show uC d λes ep h1 h2 h3 s a=>?_;try clear d);clear h3;obtain⟨es⟩:=es;cases s;exact⟨#[],ep,h1,h2,λe x=>by simp at x,.aQ,D.kP⟩
def x7{h:ai}{u:af}{l:5e6}(apr:nD x J h u l)(k:344 (nH p.1)=true):∃a bK,u= 2e2/\(a==tq)=false/\h.qO (oC pw x.w) a bK/\Bq J h l bK:=by
 (show dU apr λa e n b=>?_;try clear apr;obtain(⟨bK,d,r⟩|⟨bK,d,r⟩):=b)
 ·exact⟨a,bK,e,n,d,r⟩
 ·cases r with
  |aQ=>
   show aM (ai.lX.mp d) λo s hd=>?_;exact⟨a,[],e,n,ai.lX.bl ⟨o,s,adW (h:=h) hd H⟩,.aQ⟩
  |aP r=>exact bL ((bB nH r.1).bh.aU (ba k).1) al.lK
def BJ{h:ai}{u:af}{l:5e6}(apr:nD x J h u l)(k:344 (rM p.1)=true):∃a bK,u= 2e2/\(a==tq)=false/\h.qO (tL pw x.w) a bK/\Br J h l bK:=by
 (show dU apr λa e n b=>?_;try clear apr;obtain(⟨bK,d,r⟩|⟨bK,d,r⟩):=b)
 ·cases r with
  |aQ=>
   show aM (ai.lX.mp d) λo s hd=>?_;exact⟨a,[],e,n,ai.lX.bl ⟨o,s,adX (h:=h) hd H⟩,.aQ⟩
  |aP r=>exact bL ((bB rM r.1.jT).bh.aU (ba k).1) al.lK
 ·exact⟨a,bK,e,n,d,r⟩
def Ry(z:BG J h o o'):o'.iq=o.iq:=by
 cases o with
 |L=>have z:o'=L:=z;rw[z];rfl
 |G v=>(show aM z λu e s=>?_;try clear z);rw[e];rfl
set_option tactic.hygienic true in
theorem K8{l:5e6}{k:V}{m u:af}{r:9e6}{h:ai}(apr:nD x J h u l)(e:qA l k=G r)(v:RV J h k m):
  ∃(apv:Type) (_:qN apv) (gY:x6 pw x.w apv) (a:aH) (bK:31e8) (p:apv),u= 2e2/\(a==tq)=false/\h.qO gY a bK/\gY.is p m=true/\BG J h r (valueAt bK p):=by
 unfold qA at e;cases q:nI l k with
 |false=>rw[q]at e;cases e
 |true=>
  rw[q]at e;cases e;clear e;unfold nI at q;cases v<;>dsimp only at q<;>first|cases q|skip
  ·rename_i i t tk;(show jA (x7 apr q) λa bK b n d s=>?_;subst b);exact⟨_,_,oC pw x.w,a,bK,i,H,n,d,by simp[oC,af.isInt],Rx BH ⟨_,H⟩ s⟩
  ·rename_i i tk;(show jA (BJ apr q) λa bK b n d s=>?_;subst b);clear apr;exact⟨_,_,tL pw x.w,a,bK,i,H,n,d,by simp[PySem.tL,af.isStrOf],Rx BI H s⟩
def adY{Q:0e5}(apr:nD x J s.M u l)(e:qA l k=G r)(b:17 k uk)(h:257 r.iq 42e1):
  192 .In uk u:=by
 obtain(⟨apv,_,gY,a,bK,m,H,n,d,p,z⟩):=K8 apr e b;clear apr;exact wpAny_in_of p n d.mapOf (by rw[Ry z];exact h)
def adZ{Q:0e5}(apr:nD x J s.M u l)(e:qA l k=G r)(b:17 k uk)(h:257 (!r.iq) 42e1):
  192 .AR uk u:=by
 obtain(⟨apv,_,gY,a,bK,m,H,n,d,p,z⟩):=K8 apr e b;clear apr;exact wpAny_notIn_of p n d.mapOf (by rw[Ry z];exact h)
def Rz{Q:0e5}(apr:nD x J s.M u l)(e:qA l k=G 2e5)(b:17 k uk)(h:∀w,17 v w->Q w 42e1):
  102 (ph u uk):=by
 obtain(⟨apv,_,gY,a,bK,m,H,n,d,p,z⟩):=K8 apr e b;clear apr;(show aM z λw e r=>?_;try clear z);exact wpAny_getItem_of p d.mapOf e (h w r)
def K9:∀{l:0e0} {us:2e4} {is:D K},lP l=G is->83 l->tp us is:=by
 intro l;induction l with
 |aQ=>intro us is e r;cases r;cases e;exact .aQ
 |aP v l a=>
  intro us is e r;cases r with
  |aP r x=>
  cases r<;>first|cases e|skip
  (show aM 31e1 λb e1 s=>?_;subst s);clear e;exact .aP _ _ (a e1 x)
universe e
def x8(o:az):bO iO:=match o.be with
 | .bv es _=>es
 |_=> #[]
def eK(e:iO):al:=af.isInt e.tS e.cQ&&bJ (hashInt e.tS=e.tS)
def dO(apt:26e2):az:=(92 apt.gF apt.U)
def ad0(apt:26e2)(s:apt.dI eK=true)(h:(apt.aj (·.tS)).dS):(dO apt).qK (oC pw w) (apt.aj λe=>(e.tS,e.oR)):=by
 show⟨_,apt.U,⟨H,H,H⟩,H,λe x=>?_,?_,?_⟩
 ·have z:=ba (D.ib.mp s e (D.mem_toArray.mp x));exact⟨e.tS,z.1,(fo z.2).bh⟩
 ·refine Pairs _ apt _;clear h;induction apt with
  |aQ=>exact .aQ
  |aP p apt ih=>exact .aP (ba (ba s).1).1 H (ih (ba s).2)
 ·rw[D.rB];exact h
def r9(u:af):V:=match u with
 | .y i _=> 6e5
 |u=> 29e8
def sb(P:aw)(v:af):aq (aH×az):=match v with
 | .N a=>(8e0).nv λp=>341 a
 |_=>L
def x9(o:az):aq 2e4:=match o.be with
 | .cG xs _=>cB (decide (o.bi= 26e5)&&I.g4 xs.an 16777216) (G xs.f3) L
 |_=>L
def toG(P:aw)(v:af):V:=match v with
 | .ag s _=> .ag s
 | .bo b=> .bo b false
 |v=>((sb P v).cq λq=>x9 q.2).ak (r9 v) λus=> .X (us.aj r9)
def ya(P:aw)(a:I):26e2:=((sb P 2e2).ak #[] λq=>x8 q.2).f3
section
variable{P:aw}{h:ai}{J:aV}(A:g9 h (KL P))
def yb(h:sb P v=G q):v= .N q.1/\q∈8e0:=by
 cases v with
 |N a=>exact⟨bB af.N (I.fZ (D.find?_some (p:=λp:aH×az=>341 a) h)).bh,D.uN (p:=λp:aH×az=>341 a) h⟩
 |_=>exact nN h
def RA(us:2e4):83 (us.aj r9):=by
 induction us with
 |aQ=>exact .aQ
 |aP u us ih=>exact .aP (by cases u<;>constructor) ih
def ad1(e:x9 o=G us)(s:14e4=0e4):RV J h (.X (us.aj r9)) 2e2:=by
 unfold x9 at e;cases hd:o.be with
 |cG xs n=>
  rw[hd]at e;cases c:bJ (o.bi= .aA "tuple")&&I.g4 xs.an 16777216 with
  |true=>
   dsimp only at e;rw[c]at e;obtain H:=11e6;exact .X _ a xs.f3 ⟨o,s,fo (ba c).1,n,hd⟩ (368 (I.cy (ba c).2)) (RA _)
  |false=>dsimp only at e;rw[c]at e;exact 19e2
 |_=>rw[hd]at e;exact 19e2
include A
def RC(v:af):RV J h (toG P v) v:=by
 have z:∀{w:V},RV J h w v->RV J h (((sb P v).cq λq=>x9 q.2).ak w λus=> .X (us.aj r9)) v:=λ{w} r=>by
  cases e:(sb P v).cq λq=>x9 q.2 with
  |L=>exact r
  |G us=>
   (show aM 36e4 λs e1 e2=>?_;obtain⟨a,o⟩:=s);rw[(yb e1).1];exact ad1 e2 (A _ (yb e1).2)
 cases v with
 |ag=>exact .ag ..
 |bo=>exact .bo ..
 |y=>exact z (.y ..)
 |_=>exact z 14e9
universe e
def ad2(P:aw):tw.aj (λp=>sb P 7e2)=tw.aj λp=>G (p.1,dO (ya P p.1)):=ar
def ad3(P:aw):tw.dI (λp=>(ya P p.1).dI eK&&(decide ((ya P p.1).aj (·.tS)).dS&&!(p.1==tq)))=true:=ar
def ad4(P:aw):tw.aj (·.2)=tw.aj λp=>(ya P p.1).aj λe=>(0 e.tS,toG P e.oR):=ar
def ad5(A:g9 h 36e5)(m:(a,l)∈tw):nD x J h 2e2 l:=by
 have z:=ba (243 (ad3 x.w.bU) m);have s:=ba z.2;show⟨a,H,al.w7 _▸s.2,.a2 ⟨_,ai.lX.bl ⟨_,A _ (yb (109 (ad2 x.w.bU) m)).2,ad0 _ z.1 (fo s.1)⟩,?_⟩⟩;rw[show l=_ from 109 (ad4 x.w.bU) m];generalize ya x.w.bU a=apt;induction apt with
 |aQ=>exact .aQ
 |aP e apt ih=>exact .aP ⟨25e1,RC A _⟩ ih
noncomputable def ad6(P:aw)(k:I):12e4:=(La (x8 (34 gh 2135 143 144)) 5e5).or (La (x8 13e0) 5e5)
def gl_tab(P:aw):gl.aj 52e6=gl.aj λp=>(ad6 P p.1).aj (toG P):=ar
def nP{α:Type}(p:I×α)(l:34e9)(k:I):19 (p::l)=141 p.1 k 37e7 (19 l):=ar
def BK{α:Type}(p:I×α)(l:34e9)(k:I)(v:α):fv (p::l) k v=141 p.1 k ((p.1,v)::l) (p::fv l k v):=ar
def iW{α:Type}{l:34e9}{k:I}{v:α}(e:19 l=2e5):(k,v)∈l:=by
 induction l with
 |aQ=>exact 19e2
 |aP p l ih=>
  rw[nP]at e;cases q:I.bX p.1 k with
  |true=>
   rw[q]at e;obtain H:=11e6;rw[<-42e6];exact D.dP ..
  |false=>rw[q]at e;exact 54 (ih e)
def RD{P:aw}{h:ai}{J:aV}(A:253 h){k:I}{v:V}(e:19 gl=2e5):
  ∃u,22e2/\(h.jG iB 5e5=G u\/(h.jG iB 5e5=L/\h.jG mU 5e5=G u)):=by
 (show aM (aq.ha.mp (109 (gl_tab P) (iW e)).bh) λu e1 s=>?_;subst s);have e3:h.jG iB 5e5=La (x8 (34 gh 2135 143 144)) 5e5:=by unfold ai.jG;rw[k3 A];rfl
 have e0:h.jG mU 5e5=La (x8 13e0) 5e5:=by unfold ai.jG;rw[k0 A];rfl
 rw[e3,e0];exact⟨u,RC A u,aq.ad7.mp e1⟩
section
variable{x:Fx}{J:aV}{s:ae}{EE:af->ae->Prop}{F:MS}{Q:af->ae->Prop}{d:I}
def RE{A:df}(Y:3e6)(R:0e9){k:I}{v:V}{id:am}(a:id=5e5)(h:39e2=G .ly)(e:19 gl=2e5)(P:∀u,15e7->Q u s):
  aX (bg pw x.w) A (yc x.ab id) Q EE s:=by
 subst a;show aM (RD (J:=J) R.d7 e) λu r z=>?_;rw[ad8 Y.fn h];unfold loadGlobal;rw[Y.vw,Y.jN];show bf (yd (.vz (pf R.d7)) ?_);rcases z with z|⟨z,b⟩
 ·rw[z];exact bW (P _ r)
 ·rw[z];show bf (yd (.vz (At R.d7)) ?_);rw[b];exact bW (P _ r)
def ad9(Y:3e6)(R:0e9){k:I}{v:V}{id:am}(a:id=5e5)(h:39e2=G .ly)(e:19 gl=2e5)(P:187 v):
  102 (yc x.ab id):=RE Y R a h e λu r=>P.fJ R r
def aea(Y:3e6)(R:0e9){k:I}{v:V}{id:am}(b:id=5e5)(h:39e2=12e3)(e:19 F.T=2e5)(P:187 v):
  102 (yc x.ab id):=by
 subst b;obtain⟨m,a,hm⟩:=R.bp.iN;show aM (hm k v h e) λu e1 r=>?_;exact RG Y.fn h a e1 (P.fJ R r)
def aeb(Y:3e6)(R:0e9){k:I}{v:V}{id:am}(p:id=5e5)(h:39e2=18e8)(e:19 F.T=2e5)(P:187 v):
  102 (yc x.ab id):=by
 subst p;obtain(⟨c,u,b,a,r,_⟩):=R.bp.eU k v 25e7 e;exact wpAny_loadName_cell Y.fn h b a (P.fJ R r)
def aec(Y:3e6)(R:0e9){k:I}{v:V}{id:am}(b:id=5e5)(h:39e2=23e5)(e:19 F.T=2e5)(a:(id==56e0)=false)(P:187 v):
  102 (yc x.ab id):=by
 subst b;obtain(⟨c,u,m,p,r,_⟩):=R.bp.eU k v (.aD h) e;exact RH Y.fn h m p (P.fJ R r) a
universe e
section
variable{x:Fx}{J:aV}{s:ae}{EE:af->ae->Prop}{F:MS}{Q:af->ae->Prop}{d:I}
def aed{A:df}{h:ai}{a b:V}{u w:af}{c:al}(e:eq1 a b=G c)(r:145 a)(q:RV J h b w)(s:ae):EqAt A s u w c:=
 oO e (λe1=>oB e1 λp h1 e2=>oB e2 λm h2 e3=>by
  cases V.r_ h1;cases V.r_ h2;cases r using tH.cD;cases q using tH.cD
  clear e e1 e2
  cases x:py u&&py w with
  |false=>rw[x]at e3;exact nS e3
  |true=>rw[x]at e3;rw[KQ (ba x).1,KQ (ba x).2,<-aq.G.cE e3];exact EqAt.fE _)
 λe1=>oB e1 λp h1 e2=>ap3 e2 λm h2=>by
  clear e2 e1 e;cases V.y_ h1;cases V.y_ h2;cases r using xU.cD;cases q using xU.cD;clear h2 h1;exact λbb w E Q k=>eqBool_bytes (by simpa using k)
def aee{A:df}{h:ai}{l:0e0}{us:2e4}(r:83 l):∀{m:0e0} {p:2e4} {b:al},cw J h m p->eqB l m=G b->
  ∃e:I->al,us.U=p.U/\(∀(s:ae) j (h1:j<us.U) (h2:j<p.U),EqAt A s us[j] p[j] (e j))/\(D.dR us.U).dI e=b:=by
 induction r with
 |aQ=>
  intro m p b q e;cases q with
  |aQ=>exact⟨λk=>true,H,λk j h=>bL h (I.Lb _),11e6⟩
  |aP=>exact 18e0
 | @aP x u l us r o n=>
  intro m p b q e;cases q with
  |aQ=>exact 18e0
  | @aP app w m p q i=>
   show aM 36e4 λg e1 e=>?_;(show aM 31e1 λc e2 v=>?_;subst v);clear e;show dU (n i e2) λf h1 h2 h3=>?_;show⟨λj=>j.cD g f,bB (· +1) h1,λs j=>j.cD (λk k=>aed e1 r q s) λj a b=>h2 s j (I.RI a) (I.RI b),?_⟩;rw[D.m6,D.range_succ_eq_map,D.tc,D.all_map,<-h3];rfl
def aps.vA(e:o.li=G l)(r:RO w J h p o):∃aO,h.j8 p.1 32e6/\cw J h l aO/\p.2=[]/\l.U<=16777216:=by
 cases o with
 |ay m t=>obtain H:=11e6;exact⟨_,r.2.2.jT.1,r.2.2.jT.2,r.1,r.2.1⟩
 |_=>exact 18e0
def RJ{os:1e0}{a b:V}{c t:al}(e:pA os a b=G (c,t)):∃s h,eN 12 os a=G s/\eN 12 os b=G h/\c=cj.eqv s h:=by
 show aM 36e4 λs r e=>?_;show aM 31e1 λh x e=>?_;exact⟨s,h,r,x,(bB (·.1) e).bh⟩
def aef(Y:3e6)(R:0e9){a b:V}{app n:af}{c t:al}(e:vEq F.O a b=G (c,t))(w:17 a app)(rb:17 b n)(u:257 c s):
  192 .Eq app n:=by
 rcases aq.ad7.mp e with e|⟨_,e⟩
 ·(show jz (RJ e) λapE B h r apw=>?_;subst apw);exact adU Y R h r w rb u
 ·show oB e λi h1 e1=>oB e1 λj h2 e2=>?_;cases V.o_ h1;cases V.o_ h2;clear e e1 h1 h2;cases w using mD.cD with|Z p apq=>
  cases rb using mD.cD with|Z z apA=>
  cases q:I.bX i j with
  |true=>rw[q]at e2;exact nS e2
  |false=>
   rw[q]at e2;show oB e2 λl k e=>oB e λm hm e=>oB k λo P k=>oB hm λo' S hm=>?_;show aM 31e1 λv e1 e2=>?_;obtain H:v=c:=bB (·.1) e2;clear e2;show dU (aps.vA k (42 i P apq)) λus h apD g=>?_;show dU (aps.vA hm (R.O j _ z S apA)) λC r W g=>?_;show dU (aee (A:=x.A.fg) apD W e1) λf h1 h2 h3=>?_;clear e1;show eq_listAt h.iG r.iG h1 (I.x5 bM Y.jb) (e:=f) (λj a b=>h2 s j a b) ?_;clear e;rw[show(D.dR (188 us)).dI f=v from h3];exact u
def aeg(Y:3e6)(R:0e9){a b:V}{r h:af}{c t:al}(e:pA F.O a b=G (c,t))(v:17 a r)(rb:17 b h)(m:257 (!c) s):
  192 .gK r h:=by
 (show jz (RJ e) λq w p k n=>?_;subst n);clear e;exact adV Y R p k v rb m
def BL(r:145 a):(u==af.L)=tx a:=by
 cases r with
 |aa=>cases u<;>rfl
 |_=>rfl
def aeh{p:9e4}(R:0e9){i:I}(h:J[i]? =5e1):(p.1==tq)=false:=
 sd.bl λq=>bL (q▸R.gy p.1 ⟨p,D.ja h,D.dP ..⟩) ap
def aps.di_{o:aps}{m}(e:o.di=G m):o= .bv m:=by
 cases o with
 |bv=>exact 11e6▸H
 |_=>exact 18e0
def aei{m}(e:vd u=G m):∃d,u= .N d/\Qr d=G m:=by
 cases u with
 |N d=>exact⟨d,H,e⟩
 |_=>exact 18e0
def ye(R:0e9){b:V}{u:af}{l:5e6}(e:AT F b=G l)(r:17 b u):nD x J s.M u l:=
 oO e (λe=>oB e λp h1 e=>by
  (show aM (aei e) λd n e=>?_;subst n)
  cases V.r_ h1;cases r using tH.cD;exact ad5 R.d7 (iW e))
 λe=>oB e λi h1 e=>oB e λo m e=>by
  cases aps.di_ e;clear e;cases V.o_ h1;clear h1;cases r using mD.cD with|Z p k=>
  show gp (42 i m k) λh h o a z=>?_;exact⟨p.1,H,aeh R k,z.f5 (.f5 λh w=>⟨377 o a w.1,w.2⟩) (.f5 λh w=>⟨377 o a w.1,w.2⟩)⟩
def RL(h:vd u=G l):AT F 29e8=G l:=by
 refine(vd u).or L=_;rw[h];rfl
def RM{C:Prop}(R:0e9)(e:xu a b F=G (c,t))(v:17 a ua)(rb:17 b ub)
  (ht:∀{apr aO i tk is},ua= .y i tk->ub= .N apr->jk s.M apr 32e6->tp aO is->is.fN (· ==i)=c->C) (hd:∀{l r},nD x J s.M ub l->qA l a=G r->r.iq=c->C):C:=
 oO e (λe1=>oB e1 λl h1 e2=>oB e2 λis m e3=>by
  show aM (aq.ha.mp e3) λp h2 e4=>?_
  clear e3
  cases V.t_ h1;cases V.i_ h2
  clear h2
  cases rb using KP.cD with|X apr aO k h n=>cases v using vu.cD;exact ht H H k (K9 m n) (bB (·.1) e4))
 λe=>oB e λl h e=>by
  show aM 31e1 λr e1 e2=>?_;clear e;exact hd (ye R h rb) e1 (bB (·.1) e2)
def aej(R:0e9)(e:xu a b F=G (c,t))(p:17 a ua)(rb:17 b ub)(r:∀k,257 c 24e6):192 .In ua ub:=
 RM R e p rb (λh1 h2 n m h=>by subst h1 h2;exact in_tuple_ints n m (h▸r s.a0)) λapr e1 h=>adY apr e1 p (h▸r _)
def aek(R:0e9)(e:xu a b F=G (c,t))(p:17 a ua)(rb:17 b ub)(r:∀k,257 (!c) 24e6):192 .AR ua ub:=
 RM R e p rb (λh1 h2 n m h=>by subst h1 h2;exact notin_tuple_ints n m (h▸r s.a0)) λapr e1 h=>adZ apr e1 p (h▸r _)
def RN(e:xw o=G (c,t)):o=G (!c,t):=by
 (show aM 31e1 λs h e=>?_;obtain⟨a,b⟩:=s);obtain H:(!a)=c:=bB (·.1) e;obtain H:b=t:=bB (·.2) e;clear e;rw[h,al.not_not]
def BM{f:K->K->al}{C:af->af->Prop}(e:i2 f a b=G (c,t))(x:RV J h a ua)(rb:RV J h b ub)(g:∀i j tk s,f i j=c->C (.y i tk) (.y j s)):C ua ub:=
 oB e λp h1 e1=>by
  clear e;show aM (aq.ha.mp e1) λq h2 e2=>?_;clear e1;cases V.i_ h1;cases V.i_ h2;cases x using vu.cD;cases rb using vu.cD;clear h2 h1;exact g _ _ _ _ (bB (·.1) e2)
def RP{a b:V}{s:af}{c t d:al}{C:153 af}(e:AU b a d=G (c,t))(rb:RV J h b s)(g:(tx a !=d)=c->C .L):C s:=by
 unfold AU at e;cases z:tx b with
 |false=>rw[z]at e;exact 18e0
 |true=>
  rw[z]at e;rw[<-BL rb]at z;exact jv z▸g (bB (·.1) 11e6)
def ael(Y:3e6)(R:0e9){a b:V}{p r:af}{c t:al}(e:lQ op a b F=G (c,t))(m:17 a p)(rb:17 b r)
  (hQ:∀k,257 c 24e6):192 op p r:=by
 have h0:257 c s:=hQ s.a0;cases op with
 |Eq=>exact aef Y R e m rb h0
 |gK=>exact aeg Y R (RN e) m rb (by simpa using h0)
 |Lt=>exact BM (C:=λp r=>192 .Lt p r) (f:=λi j=>decide (i<j)) (a:=a) (b:=b) e m rb λh h h h q=>PySem.P.lt_int (q▸h0)
 |lj=>exact BM (C:=λp r=>192 .lj p r) (f:=λi j=>335 i j) (a:=a) (b:=b) e m rb λh h h h q=>PySem.P.le_int (q▸h0)
 |Gt=>exact BM (C:=λp r=>192 .Gt p r) (f:=λi j=>decide (i>j)) (a:=a) (b:=b) e m rb λh h h h q=>PySem.P.gt_int (q▸h0)
 |oJ=>exact BM (C:=λp r=>192 .oJ p r) (f:=λi j=>decide (i>=j)) (a:=a) (b:=b) e m rb λh h h h q=>PySem.P.ge_int (q▸h0)
 |Is=>exact RP (C:=λr=>192 .Is p r) e rb λq=>PySem.is_none (by rw[BL m];simpa [<-q]using h0)
 |oH=>exact RP (C:=λr=>192 .oH p r) e rb λq=>PySem.isNot_none (by rw[BL m];simpa [<-q]using h0)
 |In=>exact aej R e m rb hQ
 |AR=>exact aek R (RN e) m rb (by simpa using hQ)
universe e
section
variable{α β γ δ:Type}{x:Fx}{J:aV}{s:ae}{EE:af->ae->Prop}{bq:aV->ai->α->δ->Prop}{Q:δ->ae->Prop}{w:I}{m:aV}{h:ai}
def eD{C:Prop}{f:β->54e0}(P:11 (gN o w f))(g:∀a,o=11e3->11 (f a)->C):C:=by
 cases o with
 |L=>exact P.ak
 |G a=>exact g a H P
def fU{C:Prop}(P:11 (gB b w r))(g:b=true->27e7->C):C:=by
 cases b with
 |false=>exact P.ak
 |true=>exact g H P
def kQ{C:Prop}(P:11 (cB b r r'))(g:b=true->27e7->C)(g':b=false->11 r'->C):C:=by
 cases b with
 |false=>exact g' H P
 |true=>exact g H P
@[elab_as_elim] def m7 {C:V->af->Prop} {f:K->al->Internal.R α} (r:RV m h v u) (P:aG x J s (gI v w f) bq Q EE) (g:∀i t tk,aG x J s (f i t) bq Q EE->C (.y i t) (.y i tk)):C v u:=by
 cases r with
 |y i t tk=>exact g i t tk P
 |_=>exact P.ak
@[elab_as_elim] def Lc {C:V->af->Prop} {f:I->Internal.R α} (r:RV m h v u) (P:aG x J s (gO v w f) bq Q EE) (g:∀i p,m[i]? =G p->aG x J s (f i) bq Q EE->C (.Z i) (.N p.1)):C v u:=by
 cases r with
 |Z i p e=>exact g i p e P
 |_=>exact P.ak
def RQ{C:Prop}{f:I->54e0}(P:11 (A0 v w f))(g:∀a,v= 26e0->11 (f a)->C):C:=by
 cases v with
 |aa u=>cases u with
  |N a=>exact g a H P
  |_=>exact P.ak
 |_=>exact P.ak
def aem{C:Prop}{f:am->54e0}(P:11 (QC v w f))(g:∀a,v= .ag a->11 (f a)->C):C:=by
 cases v with
 |ag a=>exact g a H P
 |_=>exact P.ak
@[elab_as_elim] def gC_ {C:D V->D af->Prop} {f:V->D V->Internal.R α} (e:cw m h as us) (P:aG x J s (gC as w f) bq Q EE) (g:∀a u as us,RV m h a u->cw m h as us->aG x J s (f a as) bq Q EE->C (a::as) (u::us)):C as us:=by
 cases e with
 |aQ=>exact P.ak
 |aP r e=>exact g _ _ _ _ r e P
@[elab_as_elim] def BN {C:D V->D af->Prop} (e:cw m h as us) (P:aG x J s (g0 as w r) bq Q EE) (g:aG x J s r bq Q EE->C [] []):C as us:=by
 cases e with
 |aQ=>exact g P
 |aP=>exact P.ak
@[elab_as_elim] def lz {C:D V->D af->Prop} {f:V->Internal.R α} (e:cw m h as us) (P:aG x J s (g1 as w f) bq Q EE) (g:∀a u,RV m h a u->aG x J s (f a) bq Q EE->C [a] [u]):C as us:=by
 cases e with
 |aQ=>exact P.ak
 |aP r e=>exact BN e P λP=>g _ _ r P
universe e
section
variable{α β γ δ:Type}{x:Fx}{J:aV}{s:ae}{EE:af->ae->Prop}{F:MS}{d:I}
def aJ.bE(R:0e9)(o:2e1):160 ⟨F.O,F.T,o⟩:=⟨R.d7,R.cR,R.O,R.nd,R.gy,R.up,R.bp,R.bH,R.hK,R.b2,R.hj,R.gz,R.fx,R.dC,R.os,R.cV⟩
def BO{Q:29e1}(e:ll F.O v=G (b,t))(r:15e7)(p:∀k,Q b 24e6):
  102 (PySem.ll u):=by
 have h0:Q b s:=p s.a0;cases v with
 |aa w=>
  cases r using tH.cD;cases z:py u with
  |false=>
   have e:cB (py u) (G (false,false)) L=G (b,t):=e;rw[z]at e;exact 18e0
  |true=>
   cases KQ z;cases bB (·.1) (aq.G.cE e);exact truthy_none h0
 |bo b t=>cases r using KN.cD;cases bB (·.1) (aq.G.cE e);exact Ld h0
 |y i t=>
  cases r using vu.cD;cases bB (·.1) (aq.G.cE e);exact truthy_int (by rw[show(i !=0)=bJ (i≠0)from al.eq_iff_iff.bl (bne_iff_ne.aU (BP).bh)];exact h0)
 |cg l=>
  cases r using xU.cD with|cg tk h=>
  cases bB (·.1) (aq.G.cE e);exact truthy_bytes (I.dV h ap) (by cases l<;>exact p _)
 |ad l t=>
  cases r using Bp.cD with|ad a aO n q h m=>
  cases bB (·.1) (aq.G.cE e);show wpAny_truthy_list n (K.Le.bl (I.x5 (I.hZ m.cR) (I.x5 h ap))) ?_;clear e n q h h0;cases m<;>exact p _
 |_=>exact 18e0
def yf{β:Type}{C:38e5}{l:2e1}{d:β}{f:cp->2e1->β}(hd:C d)(s:∀q o,C (f q o)):C (vb l d f):=by
 cases l with
 |aQ=>exact hd
 |aP q o=>exact s q o
def aen{β:Type}{C:38e5}{l:2e1}{d:β}{f g:V->2e1->β}(hd:C d)(s:∀app o,C (f app o))(h:∀app o,C (g app o)):C (Qo l d f g):=yf hd λq o=>by
 cases q with
 |v app=>exact s app o
 |m app=>exact h app o
 |_=>exact hd
variable{Q:af->ae->Prop}
def RV.AS(r:22e2):145 v.AS:=by
 cases r with
 |y=>exact .y ..
 |bo=>exact .bo ..
 |_=>first|(constructor<;>assumption)|(rename_i r;exact r)
def vB{o:9e6}{t:al}(P:10 (tz o t F))(R:0e9):∃v,o=2e5/\∀u k,15e7->Q u 24e6:=by
 have z:∀{w},10 (gN o w λv=> 21e9)->∃v,o=2e5/\∀u k,15e7->Q u 24e6:=λP=>eD P λv e P=>⟨v,e,λu k r=>P.jS R k r⟩;cases t with
 |false=>exact z P
 |true=>
  revert P;show aen (C:=λr=>10 r->∃v,o=2e5/\∀u k,15e7->Q u 24e6) z (λapp o' P=>⟨app,oT P.1,λu k r=>?_⟩) λapp o' P=>?_
  ·exact P.2 [] 24e6 u (by rw[D.dY];exact(R.bE o').a0 k) (Kp.b7 ..) (298 r)
  ·(show aM (aq.ha.mp (oT P.1)) λv e h=>?_;subst h);exact⟨v,e,λu k r=>P.2 [] 24e6 u (by rw[D.dY];exact(R.bE o').a0 k) (Kp.b7 ..) (298 r.AS)⟩
def RR(n k:I):(43e7+(n:K)).aI=n-(k+1):=(bB K.aI (K.BQ ..)).aU (K.toNat_sub n (k+1))
set_option tactic.hygienic true in
theorem Lf(b:151 a aO)(h:cw J s.M l aO)(q:43e4)(e:dm l i=2e5)(p:∀u,15e7->Q u s):
  102 (ph 2e2 (.y i tk)):=by
 have n:=iw h;unfold dm at e;split at e
 ·rename_i k;show aM (h.dL e) λu e1 r=>?_;have w:=(116 e);exact wpAny_getItem_list (k:=K.cf k) b (K.nQ k) (show((k:I):K)<_ by lia) (by simpa using e1) (p u r)
 ·rename_i k;split at e
  ·rename_i m;have m:=I.cy m;show aM (h.dL e) λu e1 r=>?_;have hs:44e5=aO.U:=H;show wpAny_getItem_list_neg b (K.aeo k) (by rw[hs];lia) bM (x:=u) ?_ (p u r);rw[hs];have:(43e7+(aO.U:K)).aI=l.U-(k+1):=by rw[RR,n]
   rw[a9];simpa using e1
  ·cases e
def aep{k n:I}(h:k+1<=n):43e7+(n:K)=((n-(k+1):I):K):=bM
set_option tactic.hygienic true in
theorem aeq(m:jk s.M a 32e6)(h:cw J s.M l aO)(o:43e4)(e:dm l i=2e5)(n:∀u,15e7->Q u s):
  102 (ph 2e2 (.y i tk)):=by
 have w:=iw h;unfold dm at e;split at e
 ·rename_i k;show aM (h.dL e) λu e1 r=>?_;have q:=(116 e);show aer (k:=K.cf k) m (by have:(0:K)<=K.cf k:=K.nQ k;exact K.neg_ofNat_le_ofNat (2^63) k) (show((k:I):K)<_ by lia) (j:=k) ?_ (by simpa using e1) (n u r);unfold RS;have h1:¬(K.cf k<0):=by have:(0:K)<=K.cf k:=K.nQ k;exact K.Az a9
  have h2:(0<=K.cf k):=K.nQ k;have h3:(K.cf k<44e5):=by refine((k:I):K)<((aO.U:I):K);lia
  simp only[d5 h1,eE h2,eE h3,al.Ru,wC];rfl
 ·rename_i k;split at e
  ·rename_i b;have b:=I.cy b;show aM (h.dL e) λu e1 r=>?_;show aer m bM bM (j:=l.U-(k+1)) ?_ (by simpa using e1) (n u r);unfold RS;have hs:44e5=aO.U:=H;have h1:(43e7<0):=K.aeo k;have p:43e7+44e5=((l.U-(k+1):I):K):=by rw[hs,w];exact aep b
   have h2:(0<=43e7+44e5):=p▸K.nQ _;have h3:(43e7+44e5<44e5):=K.mF (K.aes h1 _) (K.hZ (K.zero_add _));simp only[eX h1,eE h2,eE h3,al.Ru,wC,aq.G.fu];rw[p];exact K.tl _
  ·cases e
def aet(R:0e9)(f:17 a ua)(ri:17 i ap5)(P:10 (xy a i F)):
  102 (ph ua ap5):=by
 induction f using RV.cD with
 |X l a aO n m h=>exact m7 ri P λk t tk P=>(vB P R).ak λv z=>aeq n h m z.1 λu r=>z.2 u s.a0 r
 |ad l t a aO n g m h=>exact m7 ri P λk t tk P=>(vB P R).ak λv z=>Lf n h m z.1 λu r=>z.2 u s.a0 r
 |Z o p j=>
  show eD P λob q P=>?_;cases ob with
  |ay l t=>
   show gp (42 o q j) λd m aO n h=>?_;exact m7 ri P λk t tk P=>(vB P R).ak λv z=>Lf n.iG h m z.1 λu r=>z.2 u s.a0 r
  |au l=>
   show gp (42 o q j) λd m aO n h=>?_;show m7 ri P λk t tk P=>fU P λc P=>(vB P R).ak λv z=>?_;cases fo c;show Lf (l:=l.er) (i:= -1) n.iG h (409 m) ?_ λu r=>z.2 u s.a0 r;clear h m;have e:=z.1;cases l with
   |aQ=>cases e
   |aP app l=>
    cases aq.G.cE e;clear e;refine(match I.g4 (0+1) (v::l).er.U with|true=>(v::l).er[(v::l).er.U-(0+1)]? |false=>L)=2e5;rw[show I.g4 (0+1) (v::l).er.U=true from I.ble_eq_true_of_le (by simp)];simp
  |bv l=>exact eD P λr hr P=>(vB P R).ak λv z=>Rz (ye (b:= .Z o) R (show(F.dL o).cq aps.di=G l by rw[q];rfl) (.Z o p j)) (z.1▸hr) ri λw rC=>z.2 w _ rC
  |_=>exact P.ak
 |aa w=>exact eD P λl q P=>eD P λr hr P=>(vB P R).ak λv z=>Rz (ye R (RL q) 14e9) (z.1▸hr) ri λw rC=>z.2 w _ rC
 |_=>exact P.ak
universe e
section
variable{x:Fx}{J:aV}{s:ae}{EE:af->ae->Prop}{F:MS}{d:I}{h':ai}
def se{w:eA}{J i:aV}{h h':ai}(k:f8 J i h h'){p:9e4}(s:∀a∈dT p,∀o,14e4=0e4->18e4=0e4):∀{o:aps},RO w J h p o->RO w i h' p o:=by
 intro o z;cases o with
 |ay l t=>(show gp z λq x aO v u=>?_;try clear z;(show oE v λo e=>?_;try clear v));exact⟨q,x,aO,⟨o,359 _ e⟩,hM k u⟩
 |au l=>(show gp z λq x aO v u=>?_;try clear z;(show oE v λo e=>?_;try clear v));exact⟨q,x,aO,⟨o,359 _ e⟩,hM k u⟩
 |bv l=>show gp z λq x o e z=>?_;exact⟨q,x,o,359 _ e,z.f5 (.f5 λP w=>⟨w.1,tN k w.2⟩) (.f5 λP w=>⟨w.1,tN k w.2⟩)⟩
 |bu C d=>obtain(⟨x,m,es,n,sl,q,e1,e2,r⟩):=z;exact⟨x,m,es,n,sl,q,359 _ e1,s m 53e4 _ e2,xY k r⟩
 |eF b=>exact⟨z.1,z.2.1,359 _ z.2.2⟩
 |cV a b=>obtain(⟨fd,c1,c2,u1,u2,q,e,⟨cc,z,app⟩,⟨o1,f1,d1⟩,⟨o2,f2,apq⟩,r1,r2⟩):=z;exact⟨fd,c1,c2,u1,u2,q,359 _ e,⟨cc,z,k.KR _ _ app⟩,⟨o1,s c1 53e4 _ f1,d1⟩,⟨o2,s c2 53e4 _ f2,apq⟩,dN k r1,dN k r2⟩
 |a7 C d=>
  obtain(⟨x,m,aC,es,n,vs,sl,q,e1,e2,r,V,tb⟩):=z;show⟨x,m,aC,es,n,vs,sl,q,359 _ e1,s m 53e4 _ e2,xY k r,V,tb.f5 id ?_⟩;intro c;obtain(⟨t,S,j,f1,f2,R,g,f,apA⟩):=c;exact⟨t,S,j,f1,f2,s t (by unfold dT;rw[q,f1];simp) _ R,g,f,apA⟩
def aeu{h h':ai}(x:51e3){a:aH}{m}:h.Ns a m->h'.Ns a m:=(by intro s;(show ol s λo es ep e r=>?_;try clear s);exact⟨o,es,ep,x a o e,r⟩)
def RT{s:aV}{h h':ai}{T:0e1}(k:f8 J s h h')(n:51e3)(j:∀c,¬cx J c->c<h.O.an->¬cx s c)(apC:Bw x J h T):Bw x s h' T:=by
 obtain(⟨⟨m,q,hm⟩,l⟩):=apC;show⟨⟨m,aeu n q,λp v a b=>?_⟩,λp v a b=>?_⟩
 ·show aM (hm p v a b) λu e r=>?_;exact⟨u,e,dN k r⟩
 ·obtain(⟨c,u,e,w,r,no⟩):=l p v a b;show aM (id w) λo i d=>?_;exact⟨c,u,e,w.eH n,dN k r,j c no (ai.cP i)⟩
def jc{h h':ai}(k:51e3):f8 J J h h':=
 ⟨(by intro a x s;(show aM s λo e r=>?_;try clear s);exact⟨o,k a o e,r⟩),(by intro a x s n;(show aM s λo e r=>?_;try clear s);exact⟨⟨o,k a o e,r⟩,n⟩),λa b n e no=>⟨k _ _ e,no⟩,λx p e=>⟨p,e,H⟩,λx x=>jr.dG λa o e x=>k a o e⟩
def Lg{h h':ai}{aB:aV}(b:51e3)(r:∀a,68 aB->14e4=L):56 J x h h':=
 ⟨λa o e s s s s=>b a o e,λa o e s s=>⟨o,b a o e,H,H⟩,λa o e s s=>b a o e,λa o e=>⟨o,b a o e⟩,r⟩
def RW{h h':ai}{aB:aV}(b:51e3)(hs:h.O.an<=h'.O.an)(e:∀a,68 aB->h.O.an<=a):56 J x h h':=
 Lg b λa s=>ai.tT (e a s)
def Lh{w:eA}{J:aV}{h:ai}{p:9e4}{a:aH}(s:a∈24e3){o:aps}(z:RO w J h p o):∃q,14e4=G q:=(Ro z a s).f5 λx e=>e.1
def aJ.g5(R:0e9){a:aH}(h:14e2):∃q,4e4=G q:=by
 show aM h λp b h=>?_;obtain⟨i,e,H⟩:=D.adQ b;exact Lh h (R.O i _ J[i] (D.ic (R.cR▸e)) (D.ic e))
def aJ.tU(R:0e9):∀a,FA x a->a<s.M.O.an:=by
 intro a h;obtain(⟨l,e,v,r,b⟩):=h;obtain(⟨_,apt,o',e1,e2,_⟩):=R.gz l e v r;rw[b]at e1;cases e1;exact ai.cP e2
def aJ.jw(R:0e9)(h:50e0)(k:I):241 F k/\32e5:=by
 show⟨⟨λp r=>h _ _ (R.d7 p r),R.cR,λi o p e1 e2=>se (jc h) (λa b o e=>h a o e) (R.O i o p e1 e2),R.nd,R.gy,λa v=>(by show oE (R.g5 v) λq e=>?_;exact ai.cP (h a q e)),RT (jc h) h (λb a b=>a) R.bp,R.bH,R.hK,R.b2,λz n c f=>?_,λl d e j=>(R.gz l d e j).eH λa o b e=>⟨o,h a o e,H⟩,R.fx,R.dC,R.os,jr.Y (λa o e b=>h a o e) R.cV⟩,Lg h (by intro a m;(show aM m λp r b=>?_;try clear m);exact nomatch r)⟩;show oE (R.hj z n c f) λw u=>?_;exact⟨w,u.eH h⟩
def aJ.ext(R:0e9)(h:50e0)(hs:342 h'.O.an)(k:I):241 F k/\32e5:=R.jw h k
def tV{p:9e4}{a:aH}:68 [p] ↔ a∈24e3:=⟨λ⟨q,s,x⟩=>by rw[D.cY]at s;subst s;exact x,λh=>⟨p,28e6,h⟩⟩
def aJ.Li(R:0e9)(m:50e0)(hs:342 h'.O.an){p:9e4}{o:aps}
  (v:∀a∈dT p,s.M.O.an<=a/\a<h'.O.an) (hn:(24e3).dS) (RX:∀a,fr x a->a<s.M.O.an) (oV:RO x.w (J++[p]) h' p o) (k:I):
  165 J [p] ⟨F.O++[o],F.T,F.bE⟩ (85 h' k)/\70 [p] h':=by
 have apv:70 [p] h':=RW m hs λa r=>(v a (tV.mp r)).1;have bR:=R.eH apv;have j:∀c,¬cx J c->c<s.M.O.an->¬cx (J++[p]) c:=λc h1 h2 h3=>(jt.mp h3).ak h1 λh=>bL (v c (tV.mp h)).1 (I.jV.bl h2);have f:lr<=s.M.O.an:=351 (R.hK _ 2e6) (RX _ 2e6);show⟨⟨λp v=>m _ _ (R.d7 p v),by simp[R.cR],λi P q e1 e2=>?_,?_,λa r=>?_,λa r=>?_,RT bR m j R.bp,λa r=>j a (R.bH a r) (RX a r),R.hK,R.b2,λz n c W=>?_,λl apq e app=>(R.gz l apq e app).eH λa o d e=>⟨o,m a o e,H⟩,λa r=>⟨(120 r).1,j a (120 r).2 (R.tU a r)⟩,R.dC,R.os,jr.Y (λa o e d=>m a o e) R.cV⟩,apv⟩
 ·by_cases u:i<F.O.U
  ·rw[D.kO u]at e1;rw[D.kO (R.cR▸u)]at e2;exact se bR (λa d o e=>m a o e) (R.O i P q e1 e2)
  ·have h1:=(116 e1);rw[D.hN,D.RY]at h1;have V:i=F.O.U:=by exact I.aev h1 u
   subst V;rw[28e5,I.jj]at e1;rw[<-R.cR,28e5,I.jj]at e2;cases e1;cases e2;exact oV
 ·rw[D.aew,D.RZ];show⟨R.nd,by simpa using hn,λa r b g=>?_⟩;intro e;subst e;show aM (D.Lj.mp r) λq t S=>?_;have h1:=R.up a ⟨q,t,S⟩;have h2:=(v a (by simpa using g)).1;exact 31 h1 h2
 ·rcases jt.mp r with h|h
  ·exact R.gy a h
  ·exact I.dV f (v a (tV.mp h)).1
 ·rcases jt.mp r with h|h
  ·exact I.mF (R.up a h) hs
  ·exact(v a (tV.mp h)).2
 ·show oE (R.hj z n c W) λw apA=>?_;exact⟨w,apA.eH m⟩
def aJ.m8(R:0e9):∀a,fr x a->a<s.M.O.an:=by
 intro a h;rcases h with H|⟨z,n,b⟩
 ·obtain⟨m,hm,_⟩:=R.bp.iN;exact hm.lt
 ·show gd (R.hj z n a b) λw o e r=>?_;exact 9e1
def aJ.vC(R:0e9):∀a,fr x a->∃o,4e4=0e4:=by
 intro a h;rcases h with H|⟨z,n,r⟩
 ·obtain(⟨m,⟨o,es,ep,e,_⟩,_⟩):=R.bp.iN;exact⟨o,e⟩
 ·show gd (R.hj z n a r) λw o b p=>?_;exact⟨o,b⟩
def aJ.vD(R:0e9):∀a,FA x a->∃o,4e4=0e4:=by
 intro a h;obtain(⟨l,e,v,r,b⟩):=h;obtain(⟨_,apt,o',e1,e2,_⟩):=R.gz l e v r;rw[b]at e1;cases e1;exact⟨_,e2⟩
def jW{h:ai}(o:az):∀a q,14e4=G q->(h.b5 o).ao a=G q:=λs s e=>ai.em o e
def vE{h:ai}(o:az):h.O.an<=(h.b5 o).O.an:=by unfold ai.b5;simp
def Lk{h:ai}(o:az):h.O.an<(h.b5 o).O.an:=by unfold ai.b5;simp
def aJ.BR{Q:0e5}(R:0e9){o:aps}(e:50e0)(hz:s.M.O.an<h'.O.an)(P:10 (F.jn o))(k:I)
  (ap6:f8 J (J++[34e5]) s.M h'->RO x.w (J++[34e5]) h' 34e5 o):156 9e9 k:=by
 have apC:=R.Li (p:=34e5) (o:=o) e (I.jx hz) (λa h=>xZ h ⟨11e7,hz⟩) (D.jd.bl ⟨nofun,.aQ⟩) R.m8 (ap6 (R.eH (RW e (I.jx hz) λa h=>xZ (tV.mp h) 11e7))) k;show P.2 [_] _ _ apC.1 apC.2 (.Z _ 34e5 ?_);rw[<-R.cR,28e5,I.jj];rfl
def aJ.Ll(R:0e9){apr:aH}(h:s.M.ao apr=L):¬cx J apr:=λo=>(by show oE (R.g5 o) λa e=>?_;exact nN (h.bh.aU e))
def BS{Q:0e5}{apr:aH}{us:2e4}{l:0e0}{t:al}(R:0e9)(r:50e0)(h:h'.gW apr 29e5)(e:s.M.ao apr=L)(p:43e4)(b:cw J h' l us)(P:187 (.ad l t))(k:I):
  156 (.N apr) k:=by
 have E:=R.jw r k;exact P.bj E.1 E.2 (.ad l t apr us h (R.Ll e) p b)
def R0{Q:0e5}{fz t:al}{us:2e4}{l:0e0}(R:0e9)(b:50e0)(p:169 l)(h:h'.j8 s.M.O.an 29e5)(r:43e4)(P:10 (F.mkR fz l t))(k:I):
  156 9e9 k:=by
 unfold MS.mkR at P;cases fz with
 |true=>exact BS R b h.iG 52e0 r (hM (jc b) p) P k
 |false=>
  show oE (id h) λn e=>?_;exact R.BR b 9e1 P k λbR=>⟨H,r,us,h,hM bR p⟩
def BT{Q:0e5}{fz t:al}{l:0e0}{us:2e4}(R:0e9)(h:169 l)(P:10 (222 l t))(o:az)(m:o.bi= 19e6)(hd:∃n,o=(327 29e5 n))(r:o.DQ=false)(k:I):
  us.U<=16777216/\Q 9e9 {s with M:=s.M.b5 o,a0:=k}:=by
 have v:=iw h;have cQ:∀bQ,bQ=F->l.U<=16777216->10 (bQ.mkR fz l t)->us.U<=16777216/\Q 9e9 {s with M:=s.M.b5 o,a0:=k}:=by
  intro bQ e a p;subst e;show oE hd λn hd=>?_;exact⟨bM,R0 R (jW o) h ⟨n,by rw[<-hd];exact ai.fF _ r⟩ a p k⟩
 unfold MS.ka gu at P;cases t with
 |true=>exact cQ F H 53e0 P.nO.2
 |false=>
  dsimp only at P;split at P
  ·rename_i b;exact cQ F H (I.cy b) P.oU
  ·exact P.ak
universe e
section
variable{γ δ:Type}{x:Fx}{J:aV}{s:ae}{EE:af->ae->Prop}{F:MS}{d:I}
def tW{f:ey->MS->Internal.R γ}{bq:199 γ δ}{Q:38e3}(P:11 ((oN b t F).aE f)):b=true/\11 (f () F):=by
 unfold oN at P;cases t with
 |true=>exact⟨53e0,P.nO.2⟩
 |false=>cases b with
  |true=>exact(238 P.oU)
  |false=>exact P.ak
def R7(r:83 l):∀n:I,cw J h (D.gi n l).xp (D.gi n us).xp
 |0=> .aQ
 |n+1=>by rw[D.Lm,D.Lm,D.R8,D.R8];exact r.lV (R7 r n)
def Ln(R:0e9)(e:xo F.O v=G l)(r:15e7):∃a aO,u= 2e2/\151 a aO/\cw J s.M l aO/\l.U<=16777216:=
 oO e (λe1=>by
  clear e
  (show aM (aq.ha.mp e1) λp h1 q=>?_;subst q)
  cases V.l_ h1
  cases r using Bp.cD with|ad a aO k c m b=>exact⟨a,aO,H,k,b,m⟩)
 λe1=>oB e1 λi h1 e2=>oB e2 λo n e3=>by
  clear e1;cases V.o_ h1;cases r using mD.cD with|Z p w=>
  show sN (aps.vA e3 (42 i n w)) λaO h1 h2 j h=>?_;exact⟨p.1,_,H,h1.iG,h2,h⟩
variable{Q:af->ae->Prop}
def aex(R:0e9)(q:151 a us)(i:151 b ws)(rl:169 l)(o:cw J s.M m ws)
  (P:10 (222 (l++m) t)):102 (Bz .dv 2e2 (.N b)):=by
 (show gD (id q) λh p w n hd=>?_;obtain(⟨bi,dd,be,sl⟩):=h);(show gD (id i) λh k r c v=>?_;obtain(⟨f,jq,data2,d⟩):=h);simp only at w hd r v;subst w hd r v;have e:bO.mk us++bO.mk ws=bO.mk (us++ws):=by simp
 show oA (BT R (rl.lV o) P (308 ⟨us++ws⟩) H 25e1 H s.a0) λj u=>?_;show concat_meets (51 p) (51 k) noFill_list_add seq_list_add PySem.apu.slot_list_add PySem.apu.entry_list_add (PySem.apu.args_list_add_2 _ _)
  (list_addW a b 29e5 ⟨ws⟩ n c dd jq sl d (by rw[f0];simpa using j)) ⟨p,k,?_⟩
 rw[e];exact u
def aey(R:0e9)(w:151 a us)(rl:169 l)(e:jM n=true)
  (P:10 (222 (dM l n) t)):102 (Bz .f4 2e2 (.y n u)):=by
 (show gD (id w) λm h p k hd=>?_;obtain(⟨bi,dd,be,sl⟩):=m);simp only at p hd;subst p hd;simp only[jM,al.lb,mW]at e;have cQ:=listMul_foldl_if (⟨us⟩:16e5) n.aI;show oA (BT R (R7 rl n.aI) P {bi:=51e4,be:=uU.cG (D.iT (λv j=>v++j) #[] (D.gi (if(⟨us⟩:16e5).jL=true then 0 else n.aI) 29e5))} H ⟨_,by rw[cQ]⟩ H s.a0) λr q=>?_;have i:(⟨us⟩:16e5).an*n.aI<=16777216:=by
  have:(287 us).xp.U=n.aI*us.U:=by simp
  rw[a9,I.R9]at r;exact r
 show wpAny_binaryOp_repeat_ref (apq:= "list") (apA:= "int") ap (51 h) (λs'=>Ay s' n u) noFill_list_mul apu.fills_int_mul apu.aez repeat_list apu.PJ.bY
  (Sa apu.aez (Ay s n u) apu.entry_int_rmul (apu.args_int_rmul_2 _ _) (lm_int_rmul_list_any n u a 29e5 k dd sl)
   ⟨h,H,(51 h),Sa apu.slot_list_mul (51 h) apu.entry_list_mul (apu.args_list_mul_2 _ _)
    (lm_list_mul_any a 29e5 k dd sl n u (by simp[Builtin.D.listFitsIndex];exact i3.bh ((λ{a b}=>i3.comm.mp) e)) bM (by unfold Builtin.D.Lo;rw[f0];simpa using i))
    ⟨h,q⟩⟩)
def aeA(R:0e9)(o:17 a ua)(rb:17 b ub)(P:10 (Kg fz op a b F)):
  102 (Bz op ua ub):=by
 have ch:∀{a},17 a ua->10 (Kf fz op a b F)->102 (Bz op ua ub):=λ{a} o P=>fU P λh P=>eD P λl w P=>eD P λm hm r=>by
  clear P;(show jA (Ln R w o) λV us q v rl apq=>?_;subst q);(show jA (Ln R hm rb) λb' W q z S apq=>?_;subst q);cases fo h;exact aex R v z rl S r
 induction o using RV.cD with
 |y i t tk=>exact m7 rb P λj u f P=>eD P λk app P=>(adR P).ak λg P=>adS (u:=false) app R g P
 |cg l tk w=>
  show fU P λh P=>m7 rb P λn u f P=>?_;obtain⟨g,r⟩:=tW P;cases fo h;simp only[xt,al.lb,mW]at g;obtain(⟨⟨⟨g1,g2⟩,g3⟩,e⟩):=g;have e:=I.cy e;show bytes_mul_any (b:=l) (by cases l<;>simp_all) g2 g3 e λt' k=>r.jS R k (.cg _ t' ?_);clear r;have e1:(287 l).xp.U=n.aI*l.U:=by simp
  have e2:n.aI*l.U<=n.aI*16:=I.mul_le_mul_left _ e;clear e;refine(287 l).xp.U<=_;lia
 |ad l t a aO v h w d=>
  cases op with
  |f4=>exact m7 rb P λn u tk P=>(tW P).ak λg P=>aey R v d g P
  |_=>exact ch (.ad l t a aO v h w d) P
 |aa=>exact ch 14e9 P
 |bo=>exact ch (.bo ..) P
 |ag=>exact ch (.ag ..) P
 |X _ _ _ a b c=>exact ch (.X _ _ _ a b c) P
 |eh _ _ a b c=>exact ch (.eh _ _ a b c) P
 |Z i p apA=>exact ch (.Z i p apA) P
universe e
def Lp(lo:8e5)(n:I):vc lo n=lo.ak 0 (kL n):=by cases lo<;>rfl
def Lq(s:8e5)(n:I):xr s n=s.ak n (kL n):=by cases s<;>rfl
def aeB(a b:I):(jo (a:K) (b:K)).aI=jo a b:=by
 rcases I.le_total a b with h|h
 ·rw[K.Lr (K.BU.bl h),I.Lr h];exact K.tl _
 ·rw[K.max_eq_left (K.BU.bl h),I.max_eq_left h];exact K.tl _
def Sb{α:Type}(us s:8e4)(lo h:8e5):(((bO.mk us).oW 0 (50e5).aI++bO.mk s)++(bO.mk us).oW (jo 50e5 ((h.ak us.U (kL us.U):I):K)).aI us.U)=bO.mk (bV us lo h s):=by
 apply bO.jw;rw[bV,Lp,Lq,aeB,K.tl,bO.aeC,bO.aeC,bO.aeD,bO.aeD];simp only[D.extract_eq_drop_take,I.sub_zero,D.drop_zero];congr 1;rw[D.take_of_length_le (by rw[D.sf];exact 11e7)]
def Sc(us:2e4)(lo s:8e5):slicePick 29e5 lo s L=⟨bD us lo s⟩:=by
 rw[slicePick_plain,bD,Lp,Lq];rfl
def Ls{α:Type}(l:8e4)(lo s:8e5):(bD l lo s).U<=l.U:=by
 unfold bD;rw[D.qP,D.sf];exact I.dV (I.Sd ..) (I.Se ..)
section
variable{γ δ:Type}{x:Fx}{J:aV}{s:ae}{EE:af->ae->Prop}{F:MS}{d:I}
def Sf(lo s:8e5)(r:83 l):cw J h (bD l lo s) (bD us lo s):=by
 unfold bD;rw[iw r];exact(r.fh _).fG _
variable{Q:af->ae->Prop}
def Lu{fz t:al}{l:0e0}{a sl:aH}{us:2e4}{b e:af}{lo h:8e5}(R:0e9)(r:151 a us)(rl:169 l)(k:43e4)
  (hs:s.M.rE sl b e .L) (pl:la b lo) (pu:la e h) (P:10 (222 (bD l lo h) t)):102 (ph 2e2 29e7):=by
 have n:=iw rl;show oA (BT R (Sf lo h rl) P (308 ⟨bD us lo h⟩) H 25e1 H s.a0) λm p=>?_;exact aeE r hs pl pu .L (by simp) (by rw[Sc];exact p) (364 us.U)
def BV(b:4e9)(lo s:8e5):KBy.Au 20e6 lo s=⟨bD b lo s⟩:=by
 rw[KBc.picked_eq,bD,Lp,Lq];rfl
def aeF{b:4e9}{sl:aH}{r e:af}{lo h:8e5}(R:0e9)(p:106 b.U)
  (hs:s.M.rE sl r e .L) (pl:la r lo) (pu:la e h) (P:187 (.cg (bD b lo h))):102 (ph (.iQ 20e6 tk) 29e7):=by
 have a:(bD b lo h).U<=16777216:=I.dV (Ls b lo h) p;exact getItem_meets (pn _ _ _) ap FB.aeG FB.entry_bytes_getitem (FB.args_bytes_getitem_2 _ _) (KBc.meets_slice2 20e6 tk _ pl pu)
  ⟨hs,by rw[BV,f0];exact a,λt' k=>by rw[BV];exact P.jS R k (.cg _ t' a)⟩
universe e
def BW(P:aw):(8e0).dI (λp=>I.jN p.1 lr)=true:=ar
def Sg(l:1e0):∀(i j:I) (o:aps),(mu l i o)[j]? =if i=j/\i<l.U then 0e4 else l[j]? :=by
 induction l with
 |aQ=>exact λi j o=>(d5 λh=>bL h.2 (I.Lb i)).bh
 |aP app l s=>
  intro i j o;cases i with
  |i4=>cases j with
   |i4=>exact(eX ⟨H,I.succ_pos _⟩).bh
   |hH j=>exact(d5 λh=>bL h.1.bh (I.Si j)).bh
  |hH i=>cases j with
   |i4=>exact(d5 λh=>bL h.1 (I.Si i)).bh
   |hH j=>
    have ih:=s i j o;refine(mu l i o)[j]? =if i+1=j+1/\i+1<l.U+1 then 0e4 else l[j]?;simp only[I.add_lt_add_iff_right,I.add_right_cancel_iff];exact ih
def Lv:∀(l:1e0) (i:I) (o:aps),(mu l i o).U=l.U
 | [],_,_=>rfl
 |_::_,0,_=>rfl
 |_::l,i+1,o=>bB (· +1) (Lv l i o)
section
variable{x:Fx}{J:aV}{s:ae}{F:MS}{h':ai}
def aJ.sg(R:0e9){i j:I}{p q:9e4}(m:J[i]? =5e1)(n:J[j]? =G q){a:aH}(h:a∈24e3)(e:a∈dT q):i=j:=by
 have nd:=R.nd;rw[D.dS,D.yg]at nd;show oE (D.gM.mp m) λli b=>?_;show oE (D.gM.mp n) λr k=>?_;have pw:=nd.2;rw[D.Sj]at pw;rcases I.lt_trichotomy i j with z|z|z
 ·exact(pw i j li r z a (by rw[b];exact h) a (by rw[k];exact e) H).ak
 ·exact z
 ·exact(pw j i r li z a (by rw[k];exact e) a (by rw[b];exact h) H).ak
def aJ.Sk(R:0e9){i:I}{p:9e4}{a:aH}(apA:J[i]? =5e1)(g:a∈24e3)(h:∀b q,b≠a->8e8=G q->s'.M.ao b=G q)(apE:∀q,4e4=G q->iu q=false)
  (oV:f8 J J s.M s'.M->RO x.w J s'.M p o') (hg:s'.dC=s.dC) (Lw:s'.os=s.os):229 (F.cM i o') s'/\70 [] s'.M:=by
 have k:14e2:=⟨p,D.ja apA,g⟩;have tk:jr s.M s'.M:=λb q e t=>h b q (λz=>by subst z;rw[apE _ e]at t;cases t) e;clear apE;have bR:f8 J J s.M s'.M:=by
  show⟨λb aO e=>?_,λb aO e no=>?_,λb apv n e no=>?_,λd p e=>⟨p,e,H⟩,λd d=>jr.dG tk⟩
  ·show gD e λo e c n dd=>?_;exact⟨o,297 b o (R.By k e _ _ dd c) e,c,n,dd⟩
  ·show aM e λo e r=>?_;exact⟨⟨o,297 b o (no k) e,r⟩,no⟩
  ·exact⟨297 b _ (no k) e,no⟩
 show⟨⟨λq apq=>h _ _ (λz=>?_) (R.d7 q apq),by rw[R.cR];exact(Lv ..).bh,λj o q e1 e2=>?_,R.nd,R.gy,λb app=>?_,?_,R.bH,R.hK,R.b2,λz n c P=>?_,λl apr e A=>(R.gz l apr e A).eH λb o e1 e2=>⟨o,391 o ((R.fx b ⟨l,apr,e,A,e1⟩).2 k) e2,H⟩,R.fx,hg.aU R.dC,Lw.aU R.os,tk.Y R.cV⟩,?_⟩
 ·have h1:=D.ib.mp (BW x.w.bU) q apq;have h2:=R.gy a k;rw[<-z]at h2;exact 31 (I.si.mp h1) h2
 ·have f1:(mu F.O i o')[j]? =0e4:=e1;clear e1;rw[Sg]at f1;split at f1
  ·rename_i S;(show oA S λapu d=>?_;try clear S;subst apu);rw[apA]at e2;cases f1;cases e2;exact oV bR
  ·rename_i S;have apF:j≠i:=λz=>by
    subst z;exact S ⟨H,by rw[<-R.cR];exact(116 e2)⟩
   exact se bR (λb app E e=>297 b E (apF (R.sg e2 apA app g)) e) (R.O j o q f1 e2)
 ·show oE (R.g5 app) λq e=>?_;clear apA;by_cases B:b=a
  ·subst B;show oE (Lh g (oV bR)) λE apy=>?_;exact ai.cP apy
  ·exact ai.cP (h b q B e)
 ·obtain(⟨⟨m,apD,hm⟩,P⟩):=R.bp;have hL:x.ab.cX≠a:=λz=>R.bH _ 2e6 (z▸k);show⟨⟨m,(by(show ol apD λo es ep e r=>?_;try clear apD);exact⟨o,es,ep,h _ o hL e,r⟩),λW v b c=>?_⟩,λW v b c=>?_⟩
  ·show aM (hm W v b c) λu e r=>?_;exact⟨u,e,30e5⟩
  ·obtain(⟨apz,u,e,⟨oc,V,apw⟩,r,no⟩):=P W v b c;exact⟨apz,u,e,⟨oc,297 _ _ (no k) V,apw⟩,30e5,no⟩
 ·show gd (R.hj z n c P) λw oc V apw=>?_;exact⟨w,oc,h _ _ (λapx=>by subst apx;exact R.bH _ (247 z n P) k) V,apw⟩
 ·show⟨λb q e d d d no=>297 b q (no k) e,λb q e f d=>⟨q,391 q ((R.fx b f).2 k) e,H,H⟩,λb q e t d=>tk b q e t,λb q e=>?_,(by intro b C;(show aM C λq apq d=>?_;try clear C);exact nomatch apq)⟩
  ·by_cases app:b=a
   ·subst app;clear k;exact Lh g (oV bR)
   ·exact⟨q,h b q app e⟩
def aJ.m9(R:0e9)(r:J[i]? =5e1)(m:a∈24e3)(hs:166 a h')(h:∀q,4e4=G q->iu q=false)
  (oV:f8 J J s.M h'->RO x.w J h' p o') (k:I):241 (F.cM i o') k/\32e5:=
 R.Sk (s':=(85 h' k)) r m (λb q n e=>(hs.2 b n).aU e) h oV H H
universe e
section
variable{γ δ:Type}{x:Fx}{J:aV}{s:ae}{EE:af->ae->Prop}{F:MS}{d:I}
def sj{f:ey->MS->Internal.R γ}{bq:199 γ δ}{Q:38e3}(P:11 ((gu n t F).aE f)):n<=16777216/\11 (f () F):=by
 unfold gu at P;cases t with
 |true=>exact⟨53e0,P.nO.2⟩
 |false=>
  cases h:I.g4 n 16777216 with
  |true=>dsimp only at P;rw[h]at P;exact⟨I.cy h,P.oU⟩
  |false=>dsimp only at P;rw[h]at P;exact P.ak
def tX{h:ai}{a:aH}{aO:16e5}(s:h.gW a aO):∀q,14e4=G q->iu q=false:=by
 intro q e;(show gD s λo x b n hd=>?_;try clear s);rw[x]at e;cases e;exact r7 λvs q=>by rw[hd]at q;cases q
variable{Q:af->ae->Prop}
def Lx(R:0e9)(e:J[i]? =5e1)(b:22e1 =G (.ay l t))(r:15e7)
  (P:10 ((gu (l.U+1) t F).aE λo F=> 276 (.ay (l++[v]) t))):102 (410 [7e2,u]):=by
 show oA (sj P) λhs P=>?_;show gp (42 i b e) λq j aO a h=>?_;have w:=iw h;show aeH a (λh' m n=>?_) (364 aO.U);have apA:=338 (.ay (l++[v]) t) e n (tX a.iG) ⟨q,by simpa using hs,aO++[u],by simpa using m,.lV (hM k h) (.aP (dN k r) .aQ)⟩ s.a0;exact 266 14e9
def aeI(R:0e9)(e:J[i]? =5e1)(m:22e1 =G (.au l))(r:15e7)
  (P:10 ((gu (l.U+1) true F).aE λo F=> 276 (.au (v::l)))):102 (410 [7e2,u]):=by
 show oA (sj P) λhs P=>?_;show gp (42 i m e) λq j aO a h=>?_;have b:=iw h;rw[D.lx]at b;show aeH a (λh' n w=>?_) (364 aO.U);have apA:=338 (.au (v::l)) e w (tX a.iG) ⟨q,by simpa using hs,aO++[u],by simpa using n,by rw[D.Bo];exact .lV (hM k h) (265 (dN k r))⟩ s.a0;exact 266 14e9
universe e
universe e
section
open PySem PySem.W PyProof.Rows PySem.Calls PySem.Spec PySem.SeqAt PySem.MeetsSeq
open AutoSeq1 (wpAny_loadPart')
set_option backward.match.sparseCases false
def aeJ(l:aH)(aO:16e5)(n:I)(dd:aq aH)(sl:bO 12e4)(app:af)(e:aO[aO.an-1]? =G app)(a:aO.an<=JU):
  Meets (Builtin.«list.pop» (61 [.N l]))
   (λv R s=>s.M.ao l=G {bi:= 19e6,bv:=dd,be:= .cG aO n,nB:=sl}/\332 app {s with M:=s.M.eM l (az.pv λxs=>xs.BX (aO.an-1))}):=
 .of_wp λbb w A R s h=>by
  obtain(⟨q,g,d,tk,os⟩):=s;show oA h λx h=>?_;have m:0<aO.an:=by
   rcases I.eq_zero_or_pos aO.an with h0|h0
   ·simp[h0]at e
   ·exact h0
  have b:¬aO.jL=true:=by
   intro p;have:aO.an=0:=by simpa using p
   exact I.u9 m a9
  have r:RS (-1) aO.an=G (aO.an-1):=by
   rw[PySem.seqIndex_neg ap (by clear b e a;lia)];exact bB G (RR _ 0)
  wp_walk using wpAny_loadPart' x;simp only[r,e,aq.yh,aq.ta];have k:(aO.BX (aO.an-1)).an<=JU+1:=I.dV (size_erased aO _) (I.aeK a);wp_walk using(AG x H (hz:=a) (_hz':=k)),wpAny_loadPart' x;exact⟨_,H,h⟩
section
variable{γ δ:Type}{x:Fx}{J:aV}{s:ae}{EE:af->ae->Prop}{F:MS}{d:I}
def Sl:∀{l:0e0} {us:2e4},83 (l++[v])->∃s u,us=s++[u]/\cw J h l s/\22e2:=by
 intro l;induction l with
 |aQ=>intro us r;cases r with|aP r x=>cases x;exact⟨[],_,H,.aQ,r⟩
 |aP w l p=>
  intro us r;cases r with
  |aP r x=>
  show jz (p x) λs u e a b=>?_;exact⟨_::s,u,bB _ e,.aP r a,b⟩
def aeL(us:2e4)(u:af):(bO.mk (us++[u])).BX ((188 (us++[u]))-1)=bO.mk us:=by
 have h1:(188 (us++[u]))-1=us.U:=by refine(us++[u]).U-1=_;simp
 rw[h1];have h2:us.U<(188 (us++[u])):=by refine us.U<(us++[u]).U;simp
 apply bO.jw;simp[bO.BX,h2,D.eraseIdx_append_of_length_le]
variable{Q:af->ae->Prop}
def Sm(p:s.M.j8 a ⟨us++[u]⟩)(k:us.U+1<=16777216)(h:∀h',h'.j8 a 29e5->166 a h'->157 u):
  102 (260 "list.pop" [2e2]):=by
 (show oE p λn r=>?_;try clear p);have m:(bO.mk (us++[u]))[(188 (us++[u]))-1]? =G u:=by
  have h1:(188 (us++[u]))-1=us.U:=by refine(us++[u]).U-1=_;simp
  rw[h1];simp
 have e:∃b,az.pv (λxs=>xs.BX ((188 (us++[u]))-1)) (327 ⟨us++[u]⟩ n)=(327 29e5 b):=by
  unfold az.pv;dsimp only;rw[aeL];exact 25e1
 show oE e λb e=>?_;show Sa PySem.apu.aeM (51 r) PySem.apu.entry_list_pop (PySem.apu.args_list_pop_1 _) (aeJ a _ n L #[] u m (by rw[f0];refine(us++[u]).U<=_;simpa using k)) ⟨r,h _ ⟨b,?_⟩ (ai.fy.eM ..)⟩;rw[258 r (by rw[e];rfl),e]
def aeN(R:0e9)(a:J[i]? =5e1)(w:22e1 =G (.au (v::r)))(P:10 (162 v i (.au r))):
  102 (260 "list.pop" [7e2]):=by
 show gp (42 i w a) λq m aO b h=>?_;rw[D.Bo]at h;(show jz (Sl h) λus u l e rv=>?_;subst l);clear h;have n:=iw e;simp only[D.lx]at n;simp only[D.m6]at m;show Sm b bM λh' j o=>?_;have apA:=338 (.au r) a o (tX b.iG) ⟨q,by exact I.aeO m,us,j,hM k e⟩ s.a0;have k:=R.eH apA.2;rw[D.dY]at k;exact 266 (dN k rv)
def aeP(R:0e9)(a:J[i]? =5e1)(w:22e1 =G (.ay l t))(e:l.er=v::r)(P:10 (162 v i (.ay r.er t))):
  102 (260 "list.pop" [7e2]):=by
 show gp (42 i w a) λq n aO m b=>?_;clear w;have el:l=r.er++[v]:=by rw[<-D.Sn l,e,D.Bo]
 clear e;subst el;(show jz (Sl b) λus u c h rv=>?_;subst c);clear b;have j:=iw h;simp only[D.lx]at j;simp only[D.hN,D.lx,D.RY]at n;show Sm m bM λh' o d=>?_;have apA:=338 (.ay r.er t) a d (tX m.iG) ⟨q,by rw[D.lx];exact I.aeO n,us,o,hM k h⟩ s.a0;have k:=R.eH apA.2;rw[D.dY]at k;exact 266 (dN k rv)
universe e
universe e
section
open PySem PySem.W PyProof.Rows PySem.Calls PySem.Spec PySem.SeqAt
set_option backward.match.sparseCases false
abbrev bc(x:Fx):iz:=bg pw x.w
def JX(d:I)(h:cC)(E:PySem.aZ)(F:MS)(r:3e2):Prop:=
 ∀(x:Fx) (J:aV) (s:ae) (Q:0e5) (EE:0e5),3e6->x.ab.br=h->0e9->10 r->
  25 27e8
def JT(d:I)(h:cC)(E:PySem.aZ)(F:MS)(r:R al):Prop:=
 ∀(x:Fx) (J:aV) (s:ae) (Q:29e1) (EE:0e5),3e6->x.ab.br=h->0e9->64 r RB->
  25 (sT E x.ab 27e8)
section
variable{x:Fx}{A:df}{s:ae}{EE:af->ae->Prop}
def Ly{E:0e5}{Q:0e5}(h:29 m):29 (yi vs m):=by
 unfold yi;exact 91 (eW h (λr s1 h1=>eP (vF (bG h1))) 54e1)
universe e
section
variable{d:I}{sc:cC}{F:MS}
inductive KC:PySem.i9->V->Prop
 |L:KC .L (.aa .L)
 |bo (b t):KC (.bo b) (.bo b t)
 |y (i t):KC (.y i) (.y i t)
 |ag (s):KC (.ag s) (.ag s)
 |cg (l:D bd):l.U<=16777216->KC (.iQ l) (.cg l)
def aeQ(h:KC c v):43 (.rZ c k aT) 21e9:=by
 intro x J s Q EE Y b R P;show 23 (aeR ..);cases h with
 |L=>exact 273 14e9
 |bo=>exact 273 (.bo ..)
 |y=>exact λe e e e e=>50e1
 |ag=>exact λe e e e e=>P.jS R _ (.ag ..)
 |cg l a=>exact λe e e e e=>P.jS R _ (.cg _ _ a)
def hq(id:am)(k:I):al:=id==5e5&&!(id==("__debug__" :am))&&!(id==56e0)
def tY{id:am}{k:I}(h:hq id k=true):id=5e5/\(id==("__debug__" :am))=false/\(id==56e0)=false:=by
 unfold hq at h;simp only[al.lb,al.w7]at h;exact⟨jv h.1.1,h.1.2,h.2⟩
def eu(s:cC)(id:am)(k:hw):al:=match s.bp.bY id with
 |G h=>274 h k
 |L=>false
set_option tactic.hygienic true in
theorem lY{s:cC}{id:am}{k:hw}(h:eu s id k=true){x:Fx}(a:x.ab.br=s):39e2=G k:=by
 unfold eu at h;unfold ez.dA;rw[a];split at h
 ·rename_i b e;rw[e,fo h]
 ·cases h
def mG(l:0e1)(n w:I)(F:MS):3e2:=gN (lk l n) w λv=> 21e9
def Lz{Q:0e5}{EE:0e5}(P:10 (mG l n w F)):
  ∃v,lk l n=2e5/\187 v:=eD P λv e P=>⟨v,e,P⟩
def So{id:am}{k:I}(a:hq id k=true)(h2:146 sc id=true):43 (172 aT) (mG F.T k 1000 F):=by
 intro x J s Q EE Y h R P;show aM (Lz P) λv e P=>?_;show hT (tY a) λe1 e2 e3=>?_;exact aL.of (qQ (aea Y R e1 (lY h2 h) e P) e2)
def Sq{id:am}{k w:I}(a:hq id k=true)(h2:(eu sc id .dk||eu sc id .eG)=true):43 (172 aT) (mG F.T k w F):=by
 intro x J s Q EE Y h R P;show aM (Lz P) λv e P=>?_;show hT (tY a) λe1 e2 e3=>?_;rcases al.tQ.mp h2 with h2|h2
 ·exact aL.of (qQ (aeb Y R e1 (lY h2 h) e P) e2)
 ·exact aL.of (qQ (aec Y R e1 (lY h2 h) e e3 P) e2)
def yj{id:am}{k:I}(a:hq id k=true)(h2:eu sc id .ly=true):43 (172 aT) (mG gl k 112 F):=by
 intro x J s Q EE Y h R P;show aM (Lz P) λv e P=>?_;show hT (tY a) λe1 e2 e3=>?_;exact aL.of (qQ (ad9 Y R e1 (lY h2 h) e P) e2)
def aeS{A B:PySem.aZ}{op:rI}{aT:dz}{fz:al}{r:3e2}{rb:MS->3e2}(m:43 A r)(n:∀aR,JX d sc B aR (rb aR)):
  43 (.Bg A op B aT) (r.aE λa F=>(rb F).aE λb F=>Kg fz op a b F):=by
 intro x J s Q EE Y e R P;show 23 (arm_eval_BinOp ..);show iJ (m x J s _ EE Y e R (P.aE λa aR i s1 u1 h j r1 k v=>?_));show iJ (dg (n aR x _ s1 _ EE Y e h (k.aE λb dr m2 u u2 p q r2 w v=>?_)));exact 44 (Ly (aL.of (aeA p (h.rv q r1) r2 w)))
def aeT(s:3e2):3e2:=s.aE λv F=>gN (ll F.O v) 115 λp=> 7 (.bo (!p.1) p.2)
def aeU{A:PySem.aZ}{aT:dz}{r:3e2}(p:43 A r):43 (.rY .Not A aT) (aeT r):=by
 intro x J s Q EE Y n R P;show 23 (aeV ..);show iJ (p x J s _ EE Y n R (P.aE λa aR w s1 u1 m u r1 h v=>?_));exact eD h λq e h=>44 (349 (PyProof.Rows.not_of (BO (Q:=λb s=>257 (!b) s) e r1 λk=>h.jS m k (.bo ..))))
def aeW(s:3e2):3e2:=s.aE λv F=>gI v 116 λi t=> 7 (.y (-i) t)
def aeX{A:PySem.aZ}{aT:dz}{e:3e2}(b:43 A e):43 (.rY .USub A aT) (aeW e):=by
 intro x J s Q EE Y p R P;show 23 (aeV ..);show aY (b x J s _ EE Y p R (P.aE λa aR k s1 u1 r m r1 h=>?_));exact m7 r1 h λi t tk h=>44 (349 (PyProof.Rows.neg_int (h.jS r _ (.y ..))))
def aeY{apq A B:PySem.aZ}{aT:dz}{r:R al}{p rb:MS->3e2}(n:JT d sc apq F r)(k:∀aR,JX d sc A aR (p aR))(m:∀aR,JX d sc B aR (rb aR)):
  43 (.vr apq A B aT) (r.aE λc F=>cB c (p F) (rb F)):=by
 intro x J s Q EE Y h R P;show 23 (arm_eval_IfExp ..);show aY (n x J s _ EE Y h R 56e5);cases r1;cases a
 ·exact m aR x _ s1 _ EE Y h b e
 ·exact k aR x _ s1 _ EE Y h b e
def aeZ{A:PySem.aZ}{aT:dz}{h:R al}(r:JT d sc A F h):JT d sc (.rY .Not A aT) F (h.aE λb F=> 7 (!b)):=by
 intro x J s Q EE Y k R P;show 23 (arm_isTrue_UnaryOp ..);show aY (r x J s _ EE Y k R (P.aE λa aR m s1 u1 p n r1 e=>?_));cases r1;exact bG (e.fJ p H)
def ae0{apq A B:PySem.aZ}{aT:dz}{r:R al}{p rb:MS->R al}(n:JT d sc apq F r)(k:∀aR,JT d sc A aR (p aR))(m:∀aR,JT d sc B aR (rb aR)):
  JT d sc (.vr apq A B aT) F (r.aE λc F=>cB c (p F) (rb F)):=by
 intro x J s Q EE Y h R P;show 23 (arm_isTrue_IfExp ..);show aY (n x J s _ EE Y h R 56e5);cases r1;cases a
 ·exact m aR x _ s1 _ EE Y h b e
 ·exact k aR x _ s1 _ EE Y h b e
def BY(s:3e2)(w:I):R al:=s.aE λv F=>gN (ll F.O v) w λp=>pz p.1 p.2 F
def Sr{β:Type}{C:38e5}{l:2e1}{d:β}{f:al->2e1->β}(hd:C d)(s:∀app o,C (f app o)):C (Qm l d f):=yf hd λq o=>by
 cases q with
 |b app=>exact s app o
 |_=>exact hd
def Ss{x:Fx}{J:aV}{s:ae}{b t:al}{Q:29e1}{EE:0e5}(R:0e9)(P:64 (pz b t F) RB)(k:I):Q b 24e6:=by
 revert P;cases t with
 |false=>exact λP=>P.jS R k H
 |true=>exact Sr (C:=λr=>64 r RB->_) (λP=>P.jS R k H) λapp o' P=>P.2 [] 24e6 b (by rw[D.dY];exact(R.bE o').a0 k) (Kp.b7 ..) (oT P.1).bh
def ae1{A:PySem.aZ}{r:3e2}{w:I}(p:43 A r)(h:∀ab,sT A ab (77 A)=(do let v<-77 A;kw A.aT;gq [v] (PySem.ll v))):JT d sc A F (BY r w):=by
 intro x J s Q EE Y n R P;rw[h];show iJ (p x J s _ EE Y n R (P.aE λa aR i s1 u1 m j r1 b u=>?_));exact eD b λq e b=>44 (349 (BO e r1 λk=>Ss m b k))
universe e
def ae2{α:Type}(r:3e3)(o p:D Ob):(r.ch p).ch o=r.ch (o++p):=by
 cases r with
 |aS a F q=>exact bB (R.aS a F) (D.eO ..).bh
 |a7 i F q=>exact bB (R.a7 i F) (D.eO ..).bh
 |no=>rfl
def tZ{α β:Type}(r:3e3)(o:D Ob)(f:α->MS->R β):(r.ch o).aE f=(34e7).ch o:=by
 cases r with
 |aS a F p=>refine(f a F).ch (o++p)=((f a F).ch p).ch o;rw[ae2]
 |a7=>rfl
 |no=>rfl
def yk{α β γ:Type}(r:3e3)(f:α->MS->R β)(g:β->MS->R γ):(34e7).aE g=r.aE λa F=>(f a F).aE g:=by
 cases r with
 |aS a F o=>exact tZ ..
 |a7=>rfl
 |no=>rfl
def BZ{α β γ δ:Type}{x:Fx}{J:aV}{s:ae}{r:3e3}{f:α->MS->R β}{g:β->MS->R γ}{bq:199 γ δ}{Q:38e3}{EE:0e5}
  (P:11 ((34e7).aE g)):11 (r.aE λa F=>(f a F).aE g):=by
 rwa[yk]at P
def PX(ih:Ih)(d:I)(s:cC)(E:PySem.aZ)(e:apw):Prop:=∀F,JX d s E F (ci ih e F)
def PT(ih:Ih)(d:I)(s:cC)(E:PySem.aZ)(e:apw):Prop:=∀F,JT d s E F (mw ih e F)
section
variable{ih:Ih}{d:I}{sc:cC}{F:MS}
def yl(op:pL):al:=match op with| .i3=>true| .Or=>false
def LA{α β:Type}{x:Fx}{J:aV}{s:ae}{r:3e3}{bq:17e8}{Q:12e2}{EE:0e5}(P:27e7)(k:I):aG x J 24e6 r bq Q EE:=by
 have h:=P.qL (s1:=24e6) (Kp.b7 J x s.M);rwa[D.dY]at h
def LB{α β:Type}{f:al->MS->3e3}{bq:17e8}{Q:12e2}{EE:0e5}(R:0e9):11 ((pz b t F).aE f)->∃bQ,160 bQ/\11 (f b bQ):=by
 cases t with
 |false=>exact λP=>⟨F,R,P.oU⟩
 |true=>exact Sr (C:=λr:Internal.R al=>11 34e7->∃bQ,160 bQ/\11 (f b bQ)) (λP=>⟨F,R,P.oU⟩) λapp o P=>⟨_,R.bE o,(oT P.nO.1:b=app)▸P.nO.2⟩
def ae3{aT:dz}{op:pL}:∀{n:10e4} {es:23e6},cI (PX ih d sc) n es->∀(F:MS) (x:Fx) (J:aV) (s:ae) (Q:0e5) (EE:0e5),3e6->x.ab.br=sc->0e9->
  10 (xD ih (yl op) es F)->25 (boolOp aT op (qR n x.ab)):=by
 intro n es apz;induction apz with
 |aQ=>exact λF x J s Q EE Y r R P=>P.ak
 | @aP o e1 _ _ h hs w=>
  intro F x J s Q EE Y r R P;cases hs with
  |aQ=>exact h F x J s Q EE Y r R P
  | @aP i e2 n es h2 hs=>
  show aY (h F x J s _ EE Y r R (P.aE λv aR j s1 u1 u l r1 m=>?_));clear P;show 44 (91 ?_);show eD m λq e m=>aL.of (BO e r1 λk=>?_);clear e;show aM (LB u m) λdr p a=>?_;clear m;have a:=LA a k;obtain⟨b,t⟩:=q;cases op with
  |i3=>cases b with
   |true=>exact w dr x _ _ Q EE Y r (p.a0 k) a
   |false=>exact bG (a.fJ (p.a0 k) r1)
  |Or=>cases b with
   |true=>exact bG (a.fJ (p.a0 k) r1)
   |false=>exact w dr x _ _ Q EE Y r (p.a0 k) a
def Su(h:cI (PX ih d sc) Es es):43 (.pL op Es aT) (xD ih (yl op) es F):=by
 intro x J s Q EE Y e R P;show 23 (ae4 ..);exact ae3 h F x J s Q EE Y e R P
def ae5:∀{r:10e4} {es:23e6},cI (PT ih d sc) r es->∀(F:MS) (x:Fx) (J:aV) (s:ae) (Q:29e1) (EE:0e5),3e6->x.ab.br=sc->0e9->
  64 (pC ih (yl op) es F) RB->25 (allTrue op r x.ab):=by
 intro r es apz;induction apz with
 |aQ=>
  intro F x J s Q EE Y b R P;show 23 (arm_allTrue_nil ..);exact 273 (show yl op=(op== .i3) by cases op<;>rfl)
 |aP h hs p=>
  intro F x J s Q EE Y b R P;show 23 (arm_allTrue_cons ..);show aY (h F x J s _ EE Y b R (P.aE λv aR k s1 u1 a m r1 e=>?_));clear P;cases r1;cases op with
  |i3=>cases v with
   |true=>exact p aR x _ _ Q EE Y b a e
   |false=>exact bG (e.fJ a H)
  |Or=>cases v with
   |true=>exact bG (e.fJ a H)
   |false=>exact p aR x _ _ Q EE Y b a e
def Sv(h:cI (PT ih d sc) Es es):JT d sc (.pL op Es aT) F (pC ih (yl op) es F):=by
 intro x J s Q EE Y e R P;show 23 (arm_isTrue_BoolOp ..);exact ae5 h F x J s Q EE Y e R P
inductive FC (ih:Ih) (d:I) (sc:cC):D jl->D PySem.aZ->D (jl×apw)->Prop
 |ei {op E e}:ae6 op E=false->PX ih d sc E e->FC ih d sc [op] [E] [(op,e)]
 |aP {op E e Sw E2 ops Es p ps}:PX ih d sc E e->FC ih d sc (Sw::ops) (E2::Es) (p::ps)->FC ih d sc (op::Sw::ops) (E::E2::Es) ((op,e)::p::ps)
def B3{Q:0e5}{EE:0e5}(Y:3e6)(R:0e9)
  (e:lQ op a b F=G (c,t)) (ra:17 a ua) (rb:17 b ub) (h:∀k,257 c 24e6):25 (jU op ua ub):=
 aL.of (ael Y R e ra rb h)
def ae7{β:Type}{C:38e5}{l:2e1}{d:β}{f:al->2e1->β}(hd:C d)(s:∀app o,C (f app o)):C (Qn l d f):=yf hd λq o=>by
 cases q with
 |q app=>exact s app o
 |_=>exact hd
def Sx{α β:Type}{f:V->MS->3e3}{bq:17e8}{Q:12e2}{EE:0e5}(R:0e9):11 ((xx op a b F).aE f)->
  ∃c t t' bQ,lQ op a b F=G (c,t)/\160 bQ/\11 (f (.bo c t') bQ):=by
 show ae7 (C:=λr:Internal.R V=>11 34e7->_) (λP=>?_) λc o P=>?_
 ·cases e:lQ op a b F with
  |L=>rw[e]at P;exact P.ak
  |G p=>rw[e]at P;exact⟨p.1,p.2,p.2,F,H,R,P.oU⟩
 ·show oE 53e0 λt e=>?_;exact⟨c,t,false,_,e,R.bE o,P.nO.2⟩
def ae8{Q:0e5}{EE:0e5}(R:0e9)(P:10 (xx op a b F)):
  ∃c t t' bQ,lQ op a b F=G (c,t)/\160 bQ/\10 (.Y (.bo c t') bQ):=
 Sx (f:=λv F=> 21e9) R (by
  cases h:xx op a b F with
  |aS v F o=>rw[h]at P;refine 10 (.aS v F (o++[]));rw[D.dY];exact P
  |a7=>rw[h]at P;exact P
  |no=>rw[h]at P;exact P)
def ae9{aT:dz}:∀{m:D jl} {n:10e4} {ps:D 40e2},FC ih d sc m n ps->∀(F:MS) (x:Fx) (J:aV) (s:ae) (a:V) (b:af) (Q:0e5) (EE:0e5),3e6->x.ab.br=sc->0e9->17 a b->
  10 (pD ih a ps F)->25 (afa aT b m (ym m n (qR n x.ab))):=by
 intro m n ps apz;induction apz with
 | @ei op E e hm h=>
  intro F x J s a b Q EE Y j R l P;have S:ym [op] [E] (qR [E] x.ab)=[27e8]:=by
   refine [LD op E 27e8]=_;unfold LD;rw[hm]
  rw[S];refine 25 (do let rv<-gq [b] 27e8;kw aT;yi [b,rv] (jU op b rv));show 91 (h F x J s _ EE Y j R (P.aE λv aR apA s1 u1 w o r1 r=>?_));show OB (ae8 w r) λc t t' bQ i apq r=>?_;exact 44 (Ly (B3 Y w i (R.rv o l) r1 λk=>r.jS apq k (.bo ..)))
 | @aP op E e z app m n p ps h hs g=>
  intro F x J s a b Q EE Y j R l P;refine 25 (do
   let rv<-gq [b] 27e8
   kw aT
   let c<-gq [b,rv] (jU op b rv)
   release [b,rv] [c]
   if<-gq [c,rv] (PySem.ll c)then afa aT rv (z::m) (ym (z::m) (app::n) (qR (app::n) x.ab))else b8 c)
  show iJ (dg (h F x J s _ EE Y j R (P.aE λv aR apA s1 u1 w o r1 r W=>?_)));show eD r λq i r=>44 (91 (B3 Y w i (R.rv o l) r1 λk=>?_));clear i;show eP (vF (183 (Ld ?_)));show aM (LB w r) λdr f u=>?_;clear r;have u:=LA u k;obtain⟨c,t⟩:=q;cases c with
  |false=>exact bG (u.fJ (f.a0 k) (.bo ..))
  |true=>exact g dr x _ _ v u1 Q EE Y j (f.a0 k) r1 u
def afb{A:PySem.aZ}{aT:dz}{e:D jl}{b:10e4}{a:apw}{ps:D 40e2}(k:PX ih d sc A a)(h:FC ih d sc e b ps):
  43 (.vt A e b aT) (30e3 λa F=>pD ih a ps F):=by
 intro x J s Q EE Y r R P;show 23 (arm_eval_Compare ..);exact aY (k F x J s _ EE Y r R (P.aE λv aR n s1 u1 m w r1 p=>ae9 h aR x _ s1 v u1 Q EE Y r m r1 p))
def afc(ih:Ih)(a:V)(p:40e2)(F:MS):pD ih a [p] F=(75 p.2) λb F=>xx p.1 a b F:=H
def afd(ih:Ih)(a:V)(p q:40e2)(l:D 40e2)(F:MS):pD ih a (p::q::l) F=(75 p.2) λb F=>gN (lQ p.1 a b F) 96 λr=>(pz r.1 r.2 F).aE λc F=>cB c (pD ih b (q::l) F) (7 31e0):=H
def afe:∀{m:D jl} {n:10e4} {ps:D 40e2},FC ih d sc m n ps->∀(F:MS) (x:Fx) (J:aV) (s:ae) (a:V) (r:af) (Q:29e1) (EE:0e5),3e6->x.ab.br=sc->0e9->17 a r->
  64 (131 (pD ih a ps F).aE (gN (ll F.O v) w λp=>pz p.1 p.2 F)) RB->25 (testChain aT r m (ym m n (qR n x.ab))):=by
 intro m n ps apz;induction apz with
 | @ei op E e hm h=>
  intro F x J s a r Q EE Y l R o P;have apA:ym [op] [E] (qR [E] x.ab)=[27e8]:=by
   refine [LD op E 27e8]=_;unfold LD;rw[hm]
  rw[apA];refine 25 (do let rv<-gq [r] 27e8;kw aT;let c<-yi [r,rv] (jU op r rv);gq [c] (PySem.ll c));rw[afc]at P;show 91 (h F x J s _ EE Y l R ((BZ P).aE λv aR S s1 u1 u f r1 b=>?_));show OB (Sx u b) λc t t' bQ j W b=>?_;exact 44 (aY (Ly (B3 Y u j (R.rv f o) r1 λk=>349 (Ld (Ss W b k)))))
 | @aP op E e g z m n p ps h hs apq=>
  intro F x J s a r Q EE Y l R o P;refine 25 (do
   let rv<-gq [r] 27e8
   kw aT
   let c<-gq [r,rv] (jU op r rv)
   release [r,rv] [c]
   if<-gq [c,rv] (PySem.ll c)then testChain aT rv (g::m) (ym (g::m) (z::n) (qR (z::n) x.ab))else 42e3)
  rw[afd]at P;show 91 (h F x J s _ EE Y l R ((BZ P).aE λv aR S s1 u1 u f r1 b=>?_));have b:aG x (J++S) s1 (gN (lQ op a v aR) 96 λq=>(pz q.1 q.2 aR).aE λc F=>131 (cB c (pD ih v (p::ps) F) (7 31e0)).aE (gN (ll F.O v) w λp=>pz p.1 p.2 F)) RB Q EE:=by
   cases h:lQ op a v aR with
   |L=>rw[h]at b;exact b
   |G q=>rw[h]at b;exact BZ b
  show eD b λq j b=>44 (91 (B3 Y u j (R.rv f o) r1 λk=>?_));clear j;show eP (vF (183 (Ld ?_)));show aM (LB u b) λdr app i=>?_;clear b;have i:=LA i k;obtain⟨c,t⟩:=q;cases c with
  |false=>exact bG (i.oU.fJ (app.a0 k) H)
  |true=>exact apq dr x _ _ v u1 Q EE Y l (app.a0 k) r1 i
def aff{A:PySem.aZ}{aT:dz}{w:I}{e:D jl}{b:10e4}{a:apw}{ps:D 40e2}(k:PX ih d sc A a)(h:FC ih d sc e b ps):
  JT d sc (.vt A e b aT) F (BY (30e3 λa F=>pD ih a ps F) w):=by
 intro x J s Q EE Y r R P;show 23 (arm_isTrue_Compare ..);unfold BY at P;exact aY (k F x J s _ EE Y r R ((BZ P).aE λv aR n s1 u1 m q r1 p=>afe h aR x _ s1 v u1 Q EE Y r m r1 p))
universe e
def vG:PySem.aZ->al
 | .Starred .. =>false
 |_=>true
def na(h:vG E=true):jX (E::Es) ab=(false,77 E)::jX Es ab:=by
 cases E<;>first|rfl|cases h
def pQ(n:I)(J:aV)(h:ai)(vs:0e0)(us:2e4):Prop:=83 vs/\vs.U=n
def kR(ih:Ih)(d:I)(s:cC)(E:PySem.aZ)(e:apw):Prop:=vG E=true/\PX ih d s E e
section
variable{ih:Ih}{d:I}{sc:cC}{F:MS}
def vH:∀{a:10e4} {es:23e6},cI (kR ih d sc) a es->∀(F:MS) (x:Fx) (J:aV) (s:ae) (Q:2e4->ae->Prop) (EE:0e5),3e6->x.ab.br=sc->0e9->
  64 (kc ih es F) (pQ es.U)->25 (nb (144 aT a x.ab)):=by
 intro a es apz;induction apz with
 |aQ=>exact λF x J s Q EE Y b R P=>273 ⟨.aQ,H⟩
 | @aP E e a es h hs n=>
  intro F x J s Q EE Y b R P;have m:=h.1;have h:=h.2;rw[na m];refine 25 (do
   let v<-27e8
   let eS<-40e0
   return eS++(<-gq eS (nb (144 aT a x.ab))))
  show aY (h F x J s _ EE Y b R (P.aE λv aR u s1 u1 r j r1 k=>?_));show 358 (n aR x _ s1 _ EE Y b r (k.aE λvs dr m2 i us p q r2 w=>?_));exact bG (w.fJ p ⟨.aP (r.rv q r1) r2.1,by rw[D.m6,D.m6,r2.2]⟩)
def afg{c}(h:cI (kR ih d sc) Es es)(b:I.g4 es.U 1000=true):43 (.kh Es c aT) ((kc ih es F).aE (316 (.X vs))):=by
 intro x J s Q EE Y r R P;have n:=I.cy b;show 23 (Sy ..);show 44 (aY (vH h F x J s _ EE Y r R (P.aE λvs aR k s1 us a v r1 e=>?_)));show oA r1 λr1 p=>?_;have m:=iw r1;show aL.of (Sz ?_ (by refine us.gF.an<=_;rw[D.LE,f0];lia));have E:=a.ext (jW (307 us.gF)) (vE _) s1.a0;exact e.bj E.1 E.2 (.X vs _ us ⟨_,10e0,H,_,H⟩ bM (hM (jc (jW _)) r1))
def afh(h:cI (kR ih d sc) Es es):43 (.D Es aT) ((kc ih es F).aE λvs F=>222 vs false):=by
 intro x J s Q EE Y r R P;rw[show 233 (.D Es aT)=(do kw aT;SA (<-nb (144 aT Es x.ab)))from H];show 44 (aY (vH h F x J s _ EE Y r R (P.aE λvs aR k s1 us b m r1 e=>?_)));show oA r1 λr1 p=>?_;show oA (BT b r1 e (308 us.gF) H 25e1 H s1.a0) λhz a=>?_;exact aL.of (J8 a (by refine us.gF.an<=_;rw[D.LE,f0];lia))
def afi(pS:PySem.aZ)(o i:af):∃h,subscripted pS false o i=yi h (ph o i):=by
 cases pS with
 |r0 _ _ s=>cases s<;>exact 25e1
 |_=>exact 25e1
def SB{x:Fx}{s:ae}{EE:0e5}{vI pS:PySem.aZ}{o i:af}{apq id:fS}{Q:0e5}(a:s.kH o apq)
  (hl:pm 42e7 "__getitem__" =b8 (G (.bI id))) (hg:97 (ph o i)):97 (PyProof.Rows.SC vI pS o i):=by
 unfold PyProof.Rows.SC;show 23e7;rw[getitemInPython_of_ne a.not_modules];show bf (iP a hl 20e3);have cQ:∀h,259 (yi h (ph o i)) (λr s'=>259 (afj vI o r>>=λb=>b8 r) Q EE s') EE s:=
  λh=>wpAny_operating (hV hg (λr k p=>bf (SD (bW p))) λb b x=>x)
 show 23e7;refine 259 (subscripted pS false o i) _ _ _;show oE (afi pS o i) λh e=>?_;rw[e];exact cQ h
def SE{A apy:PySem.aZ}{aT:dz}{k:3e2}{bq:199 α af}{ri:MS->3e3}{f:V->α->MS->3e2}(v:43 A k)
  (hi:∀aR (x:Fx) (J:aV) (s:ae) (Q:0e5) (EE:0e5),3e6->x.ab.br=sc->160 aR->11 (ri aR)->25 (233 apy))
  (hf:∀aR (x:Fx) (J:aV) (s:ae) (Q:0e5) (EE:0e5) a i p h,3e6->160 aR->17 a p->bq J s.M i h->10 (f a i aR)->
   97 (PyProof.Rows.SC A apy p h)):
  43 (.qG A apy aT) (k.aE λa F=>(ri F).aE λi F=>f a i F):=by
 intro x J s Q EE Y r R P;show 23 (arm_eval_Subscript ..);show iJ (v x J s _ EE Y r R (P.aE λa aR l s1 u1 e o r1 n w=>?_));show iJ (dg (hi aR x _ s1 _ EE Y r e (n.aE λb dr m2 u u2 m j r2 q w=>?_)));exact 44 (aL.of (hf dr x _ u Q EE a b u1 u2 Y m (e.rv j r1) r2 q))
def DK.ex(z:DK w J h o l):o.yn/\∃es ep,o.be= .bv es ep:=by
 rcases z with⟨_,⟨es,ep,s,hd,_⟩,_⟩|⟨_,⟨es,ep,s,hd,_⟩,_⟩<;>exact⟨s,es,ep,hd⟩
def tlO(o:aps):al:=match o with
 | .bu _ _=>false
 | .cV _ _=>false
 | .a7 _ _=>false
 |_=>true
def LF(F:MS)(a:V):Prop:=match a with
 | .X _=>ku
 | .ad _ _=>ku
 | .cg _=>ku
 | .aa u=>(vd u).iq=true
 | .Z i=>∃o,18e7=0e4/\tlO o=true
 |_=>fR
def SF(R:0e9)(q:17 a ua)(h:LF F a):∃apq id,s.kH ua apq/\pm 42e7 "__getitem__" =b8 (G (.bI id)):=by
 cases q with
 |X l a aO r=>exact⟨_,_,r.mX,slot_tuple_getitem.bY⟩
 |ad l t a aO r=>exact⟨_,_,r.mX,SG.bY⟩
 |cg b tk=>exact⟨_,_,pn _ _ _,FB.aeG.bY⟩
 |aa=>
  show oE (aq.mT.mp h) λl k=>?_;(show dU (ye R (RL k) 14e9) λj w u z=>?_;subst w);clear k;rcases z with⟨_,⟨o,_,_,n,m,_⟩,_⟩|⟨_,⟨o,_,_,n,m,_⟩,_⟩<;>exact⟨_,_,⟨o,n,m.1⟩,afk.bY⟩
 |Z i p v=>
  show aM h λo e h=>?_;have z:=42 i e v;clear e;cases o with
  |ay=>exact⟨_,_,z.2.2.jT.1.iG.mX,SG.bY⟩
  |au=>exact⟨_,_,z.2.2.jT.1.iG.mX,SG.bY⟩
  |bv=>exact⟨_,_,⟨_,z.2.2.jT.1,z.2.2.jT.2.ex.1.1⟩,afk.bY⟩
  |eF=>exact⟨"bytearray",_,(51 z.2.2),BA.JD.bY⟩
  |_=>exact nF h
 |_=>exact h.ak
universe e
def JB(d:I)(h:cC)(B:11e1)(F:MS)(r:2e9):Prop:=
 ∀(x:Fx) (J:aV) (s:ae) (Q:34e8) (EE:0e5),3e6->x.ab.br=h->x.fz=false->pT 3e0 x.A x.ab EE->0e9->64 r RF->
  25 (mh B x.ab)
def JS(d:I)(h:cC)(S:ck)(F:MS)(r:2e9):Prop:=
 ∀(x:Fx) (J:aV) (s:ae) (Q:34e8) (EE:0e5),3e6->x.ab.br=h->x.fz=false->pT 3e0 x.A x.ab EE->0e9->64 r RF->
  25 (exec S x.ab)
def JC(d:I)(f:V)(as:0e0)(F:MS)(r:3e2):Prop:=
 ∀(x:Fx) (J:aV) (s:ae) (u:af) (us:2e4) (Q:0e5) (EE:0e5),3e6->0e9->17 f u->169 as->10 r->
  25 (aW u us)
section
variable{J:aV}{h:ai}{d8:am->aq hw}
def SH:∀{ps:D I} {us:2e4} {m:am->12e4},k∉ps->LG d8 (42e4 us) m 5e5=m 5e5
 | [],_,_,_=>rfl
 |p::ps,[],_,_=>rfl
 |p::ps,u::us,m,h=>by
  have h1:k≠p:=λe=>h (by rw[e];exact D.dP ..);have h2:k∉ps:=λe=>h (54 e);refine LG d8 (42e4 us) _ 5e5=_;rw[SH h2];split
  ·exact d5 (λe=>h1 (r6 e))
  ·rfl
def SI:∀{ps:D I} {us:2e4} {m:am->12e4},k∉ps->LH d8 (42e4 us) m 5e5=m 5e5
 | [],_,_,_=>rfl
 |p::ps,[],_,_=>rfl
 |p::ps,u::us,m,h=>by
  have h1:k≠p:=λe=>h (by rw[e];exact D.dP ..);have h2:k∉ps:=λe=>h (54 e);refine LH d8 (42e4 us) _ 5e5=_;rw[SI h2];split
  ·rfl
  ·exact d5 (λe=>h1 (r6 e))
def SJ:∀{ps:D I} {vs:0e0} {us:2e4} (m a:am->12e4),ps.dS->83 vs->∀k v,19 (ps.fw vs)=2e5->
  ∃u,22e2/\(d8 5e5=12e3->LG d8 (42e4 us) m 5e5=G u)/\(d8 5e5≠12e3->LH d8 (42e4 us) a 5e5=G u):=by
 intro ps;induction ps with
 |aQ=>intro _ _ _ _ _ _ k v e;cases e
 |aP p ps w=>
  intro vs us m a s r k v e;cases r with
  |aQ=>cases e
  | @aP i u0 vs us r n=>
  show oA (D.jd.mp s) λb s=>?_;rw[D.zip_cons_cons,nP]at e;cases q:I.bX p k with
  |true=>
   rw[q]at e;cases e;have:=42e6;subst a9;show⟨u0,r,λx=>?_,λx=>?_⟩
   ·refine LG d8 (42e4 us) _ (nm p)=_;rw[SH b,eX x,eX H]
   ·refine LH d8 (42e4 us) _ (nm p)=_;rw[SI b,d5 x,eX H]
  |false=>
   rw[q]at e;exact w _ _ s n k v e
universe e
def vJ:∀{lo:I} {cO:29e3},(bp.bY n=18e8\/(cO.bY n).iq=true)->(((t5 lo bp cO).bY n).iq=true):=by
 induction bp with
 |aQ=>exact λh=>h.ak (λh=>by cases h) (λh=>by unfold t5;exact h)
 |aP p r x=>
  obtain⟨gf,d8⟩:=p;intro lo cO h;unfold t5;split
  ·rename_i s;show x ?_;rcases h with h|h
   ·rw[D.lB]at h;cases q:(n==gf)with
    |true=>exact .aD (by rw[D.lB,q];rfl)
    |false=>rw[q]at h;exact 25e7
   ·right;rw[D.lB];split
    ·rfl
    ·exact h
  ·rename_i s;show x ?_;rcases h with h|h
   ·rw[D.lB]at h;cases q:(n==gf)with
    |true=>rw[q]at h;cases h;exact bL ap s
    |false=>rw[q]at h;exact 25e7
   ·exact .aD h
def SK:∀{lo:I} {cO:29e3},(bp.aj (·.1)).dS->(cO.aj (·.1)).dS->(∀n,n∈bp.aj (·.1)->n∉cO.aj (·.1))->((t5 lo bp cO).aj (·.1)).dS:=by
 induction bp with
 |aQ=>intro lo cO _ h _;unfold t5;exact h
 |aP p r ih=>
  obtain⟨gf,d8⟩:=p;intro lo cO h1 h2 h3;show oA (D.jd.mp h1) λa x=>?_;unfold t5;split
  ·show ih x (D.jd.bl ⟨h3 _ (D.dP ..),h2⟩) λn s hm=>?_;rcases D.eR.mp hm with e|e
   ·exact a (e▸s)
   ·exact h3 n (54 s) e
  ·exact ih x h2 λn s=>h3 n (54 s)
structure yo(fa:aH)(fn:Fn)(fd:jB)(B:D ck):Prop where
 Z:∀P,∃o,(fa,o)∈KL P/\o.be= .mi fd
 dG:∀(h:ai) P,g9 h (KL P)->h.zD fd.dG fd.pb
 cW:fd.cW= .mS B
 co:fd.br.zB=false
 gen:fd.br.zC=false
 d8:fd.br.d8= .jJ
 vw:fd.g8=iB
 SM:fd.rk=[]
 jN:fd.jC=mU
 bp:(fd.br.bp.aj (·.1)).dS
 SN:∀app∈fd.br.bp,app.2≠ .eG
 SO:fn.ps.dS
 pk:∀p∈fn.ps,fd.br.bp.bY (nm p)=G .cU\/fd.br.bp.bY (nm p)=G .dk
 cq:∀(s:ae) P,g9 s.M (KL P)->∀J vs us,cw J s.M vs us->(vs++fn.jp vs.U).U=fn.ps.U->∃B4,cw J s.M (vs++fn.jp vs.U) B4/\BindsTo s fd ⟨us,[]⟩ ((fn.ps.aj nm).fw B4)
def LI(A:253 h):h.OI:=⟨h.jG rD,.vz (Jy A),by unfold ai.jG;rw[k2 A];kernel_rfl⟩
def SP{s:29e3}(x:(s.aj (·.1)).dS){n:am}{c:aH}(h:(n,c)∈s):s.bY n=G c:=by
 induction s with
 |aQ=>cases h
 |aP p r ih=>
  obtain⟨m,d⟩:=p;show oA (D.jd.mp x) λh1 h2=>?_;clear x;rw[D.lB];rcases D.eR.mp h with e|e
  ·cases e;simp
  ·have:n≠m:=λb=>h1 (b▸D.ow (f:=(·.1)) e);clear h1 h;have a:(n==m)=false:=sd.bl a9;rw[a];exact ih h2 e
def ek(x:Fx)(ab:ez):Fx:=⟨x.w,46e9,ab,x.os,false⟩
def B5(F:MS)(rb:2e9):3e2:=rb.aE λr bQ=>gA r 130 λv=> .Y v ⟨bQ.O,F.T,bQ.bE⟩
def aJ.sQ{x:Fx}{J:aV}{F:MS}{s s1:ae}(R:0e9){apt:aH}{m W:am->12e4}{ab:ez}{T:0e1}(hL:ab.cX=s.M.O.an)(xc:InCallC s ab.cX m ab.b2 W s1)
  (hf:ab.eb=31e7) (hk:ab.br.d8= .jJ) (hA:39e9) (w:(ab.b2.aj (·.1)).dS)
  (jy:∀k v,19e1=2e5->∃u,15e7/\(33e7=12e3->m 5e5=G u)/\(33e7≠12e3->W 5e5=G u))
  (z:∀n,(37e4=18e8\/37e4=23e5)->(378 n)=true):
  aJ 5e4 J (219 T) s1:=by
 have P:=xc.oX.bR;(show qe xc.oX.fE λh1 tk apD=>?_;subst apD);have hz:s.M.O.an<h1.O.an:=by
  have:=xc.oX.ns.lt;rw[hL]at a9;exact a9
 have E:=R.ext P (I.jx hz) tk;have p:=E.1;have apA:lr<=s.M.O.an:=351 (R.hK _ 2e6) (R.m8 _ 2e6);have app:∀n c,(n,c)∈ab.b2->s.M.O.an<c:=λn c h=>hL▸xc.LJ n c h;have g:∀a,fr 5e4 a->s.M.O.an<=a:=by
  rintro a (rfl|⟨_,n,w⟩)
  ·exact 39e0
  ·exact I.jx (app n a w)
 show⟨p.d7,p.cR,p.O,p.nd,p.gy,p.up,⟨(313 xc.oX.ns),λk v a b=>?_⟩,λa q f=>31 (R.up a f) (g a q),λa q=>I.dV apA (g a q),⟨?_,w,λn w=>?_⟩,λS n c z=>?_,?_,?_,p.dC,p.os,p.cV⟩
 ·show dU (jy k v b) λu r e S=>?_;clear g;exact⟨u,e a,dN (jc P) r⟩
 ·show dU (jy k v b) λu r S e=>?_;clear jy;show oE (aq.mT.mp (z _ a)) λc apq=>?_;have apw:33e7≠12e3:=by
   have t:33e7=18e8\/33e7=23e5:=a;rcases t with t|t<;>rw[t]<;>decide
  show⟨c,u,apq,(e apw)▸xc.dk _ c apq,dN (jc P) r,λf=>?_⟩;have h1:=app _ c (nc apq);exact 31 (R.up c f) (I.jx h1)
 ·have:=xc.apart;rw[D.dS,D.afl];exact a9
 ·have h1:=app n _ w;clear app;have h2:(5e4).ab.cX=s.M.O.an:=hL;rw[h2]at h1;exact 294 h1
 ·exact⟨_,xc.dk n c (SP w z)⟩
 ·(show oE hA λl d=>?_;try clear hA);clear z w;intro l' j e i;have:l'=ab::l:=by
   have:(5e4).A.dX=G (ab::l):=by refine 38e9=_;rw[d];rfl
   rw[a9]at j;cases j;rfl
  subst a9;rcases D.eR.mp i with H|i
  ·show uB xc.oX.ns λo es ep e1 e2 S=>?_;clear xc;exact⟨hk,_,o,hf,e1,es,ep,e2⟩
  ·exact p.gz l d e i
 ·rintro a ⟨l',j,e,i,q⟩;(show oE hA λl d=>?_;try clear hA);have:l'=ab::l:=by
   have:(5e4).A.dX=G (ab::l):=by refine 38e9=_;rw[d];rfl
   rw[a9]at j;cases j;rfl
  clear j;subst a9;rcases D.eR.mp i with H|i
  ·rw[hf]at q;cases q;rw[hL];clear hL;exact⟨apA,λf=>294 (R.up _ f)⟩
  ·exact 120 ⟨l,d,e,i,q⟩
def B6(k:39e9):FA 5e4 a ↔ (ab.eb=11e3\/FA x a):=by
 (show oE k λl p=>?_;try clear k);have e:(5e4).A.dX=G (ab::l):=by refine 38e9=_;rw[p];rfl
 constructor
 ·rintro⟨l',s,v,b,r⟩;rw[e]at s;cases s;rcases D.eR.mp b with H|b
  ·exact .a2 r
  ·exact .aD ⟨l,p,v,b,r⟩
 ·rintro(h|⟨l',s,v,b,r⟩)
  ·exact⟨_,e,ab,D.dP ..,h⟩
  ·rw[p]at s;cases s;clear s;exact⟨_,e,v,54 b,r⟩
def aJ.B7{x:Fx}{J aB:aV}{F P:MS}{s s1 s':ae}(R:0e9){ab:ez}(hL:342 ab.cX)(apE:ab.eb=31e7)(gJ:∀n c,(n,c)∈ab.b2->ab.cX<c)(app:39e9)
  (ie:48e5) (pU:51e0)
  (R':aJ 5e4 (J++aB) P s') (K':56 J 5e4 s1.M s'.M):206 ⟨P.O,F.T,P.bE⟩/\38e6:=by
 have i:∀a,a<s.M.O.an->¬fr 5e4 a:=by
  rintro a p (rfl|⟨_,n,V⟩)
  ·exact 31 p hL
  ·have h1:=gJ n a V;exact 31 p (351 hL h1)
 have j:∀a,a<s.M.O.an->¬FA x a->¬FA 5e4 a:=by
  intro a p h q;rcases(B6 app).mp q with e|q
  ·rw[apE]at e;cases e;exact 31 p hL
  ·exact h q
 have apv:38e6:=by
  show⟨λa o e t f d apD=>K'.bR a o (ie a o e) t (j a 9e1 f) (i a 9e1) apD,λa o e f d=>K'.js a o (ie a o e) ((B6 app).bl (.aD f)) (i a 9e1),λa o e t n=>K'.iV a o (ie a _ e) t n,λa o e=>K'.g5 a o (ie a o e),λa p=>?_⟩;cases B:s.M.ao a with
  |L=>rfl
  |G o=>exact 224 (K'.fk a p) (ie a o B)
 have bR:=R.eH apv;have g:∀a o,¬14e2->4e4=0e4->¬68 (J++aB):=λa o h1 h2 h3=>(jt.mp h3).ak h1 λh=>nN ((323 h) h2);have eb:∀a o,FA x a->4e4=0e4->∃o',s'.M.ao a=G o'/\o'.be=o.be:=by
  intro a o f e;show dU (K'.js a o (ie a o e) ((B6 app).bl (.aD f)) (i a 9e1)) λo' e1 d e2=>?_;exact⟨o',e1,e2⟩
 have dk:∀c u,s.M.pO c u->¬cx J c->s'.M.pO c u:=by
  rintro c u ⟨o,e,hd⟩ no;show⟨o,K'.bR c o (ie c o e) (Bs hd) (j c 9e1 55e0) (i c 9e1) no,hd⟩
 show⟨⟨R'.d7,R'.cR,R'.O,R'.nd,R'.gy,R'.up,⟨?_,λk v a b=>?_⟩,λa p=>(R.vC a p).ak λo e=>g a o (R.bH a p) e,R.hK,R.b2,λz n c apA=>?_,λl apq e S=>?_,λa p=>⟨(120 p).1,(R.vD a p).ak λo e=>g a o (120 p).2 e⟩,R'.dC,R'.os,R'.cV⟩,apv⟩
 ·obtain(⟨m,⟨o,es,ep,e,hd,hs⟩,hm⟩):=R.bp.iN;have:∃o',s'.M.ao x.ab.cX=G o'/\o'.be=o.be:=by
   by_cases q:FA x x.ab.cX
   ·exact eb _ _ q e
   ·exact⟨o,K'.bR _ o (ie _ o e) (tK hd) (j _ 9e1 q) (i _ 9e1) (R.bH _ 2e6),H⟩
  (show aM a9 λo' A apw=>?_;try clear a9);show(313 ⟨o',es,ep,A,apw.aU hd,hs⟩);show aM (hm k v a b) λu e1 r=>?_;exact⟨u,e1,30e5⟩
 ·obtain(⟨c,u,e1,e2,r,no⟩):=200 k v b;show aM (id e2) λo e3 d=>?_;exact⟨c,u,e1,dk c _ e2 no,30e5,g c _ no e3⟩
 ·show oE (R.hj z n c apA) λw W=>?_;exact⟨w,dk c w W (R.bH c (247 z n apA))⟩
 ·exact(R.gz l apq e S).eH λa o e1 e2=>eb a o ⟨l,apq,e,S,e1⟩ e2
structure qS(apu:aH->Prop)(h h':ai):Prop where
 an:h'.O.an=h.O.an
 fE:∀a,¬apu a->h'.ao a=h.ao a
 be:∀a o,h.ao a=G o->∃o',h'.ao a=G o'/\o'.bi=o.bi/\o'.be=o.be
def qS.b7(apu:153 aH)(h:ai):qS apu h h:=⟨H,λs s=>rfl,λs o e=>⟨o,e,H,H⟩⟩
def qS.aU{apu:153 aH}(a:qS apu h h1)(b:qS apu h1 h2):qS apu h h2:=
 ⟨b.an.aU a.an,λc s=>(b.fE c s).aU (a.fE c s),λc o e=>by
  show dU (a.be c o e) λo1 e1 c1 d1=>?_
  show dU (b.be c o1 e1) λo2 e2 c2 x=>?_
  exact⟨o2,e2,c2.aU c1,x.aU d1⟩⟩
section
variable{apB:iz}{A:df}{E:af->ae->Prop}
def afm{apu:153 aH}(l:D ez):∀(s:ae) (Q:17e3),(∀e∈l,r8 s.M e)->(∀e∈l,∀a,e.eb=11e3->apu a)->(∀h',qS apu s.M h'->157 ())->
  67 (LK l):=by
 induction l with
 |aQ=>intro s Q _ _ h;unfold LK;exact bW (h _ (.b7 ..))
 |aP e l j=>
  intro s Q b i h;obtain(⟨t,apt,o,e1,e2,es,n,e3⟩):=b e (D.dP ..);unfold LK;rw[e1];show bf (rm e2 ?_);by_cases hr:((o.nB.ge 3 L).iq)=true
  ·rw[eX hr];exact bW (h _ (.b7 ..))
  ·rw[d5 hr];show bf (gt (a:=false) (by simp[behindIsImport,t]) ?_);have cQ:∀v,67 (do
     eM apt λo=>{o with nB:= #[G e.dG,47 e.g8,o.nB.ge 2 L,2e5,o.nB.ge 4 L,e.mi.aj af.N,47 e.jC]++(e.b2.aj λc=>47 c.2).gF}
     LK l):=by
    intro v;have P:∀(g:az->az),(∀o,(g o).bi=o.bi/\(g o).be=o.be)->qS apu s.M (s.M.eM apt g):=by
     intro g k;have p:166 apt (s.M.eM apt g):=ai.fy.eM ..;show⟨p.1,λa d=>p.2 a (λz=>d (z▸i e (D.dP ..) apt e1)),λa o' x=>?_⟩;by_cases q:a=apt
     ·subst q;rw[e2]at x;cases x;show⟨g o,258 e2 ?_,(k o).1,(k o).2⟩;have hd:=(k o).2;generalize g o=go at hd;obtain(⟨c1,c2,c3,c4⟩):=go;rw[e3]at hd;cases hd;rfl
     ·exact⟨o',(p.2 a q).aU x,H,H⟩
    show bf (abR e2 ?_);have u:=P (λo=>{o with nB:= #[G e.dG,47 e.g8,o.nB.ge 2 L,2e5,o.nB.ge 4 L,e.mi.aj af.N,47 e.jC]++(e.b2.aj λc=>47 c.2).gF}) λo=>15e2;show j _ Q (λm w=>(b m (54 w)).eH λa o app x=>?_) (λm w=>i m (54 w)) λh' f=>h h' (u.aU f);clear j i b;show dU (u.be a o x) λo' f1 app f2=>?_;exact⟨o',f1,f2⟩
   cases l with
   |aQ=>exact bf (wpAny_keptBack_nil λv=>cQ v)
   |aP c r=>exact bf (gt H (cQ _))
def afn{Q:0e5}(b:A.dX=G (ab::l))(p:ab.eb=G apt)(Y:∀e∈ab::l,r8 s.M e)
  (h:∀h',qS (λa=>∃e∈ab::l,e.eb=11e3) s.M h'->157 (.N apt)):67 (PySem.SQ ab):=by
 unfold PySem.SQ;show bf (wpAny_frameEnvs b ?_);have hd:((ab::l).dropWhile λx=>x.eb !=ab.eb)=ab::l:=by simp[D.dropWhile]
 rw[hd];unfold frameObject;show 167 (afm (apu:=λa=>∃e∈ab::l,e.eb=11e3) _ s _ Y (λe r a k=>⟨e,r,k⟩) λh' u=>20e3);rw[p];exact bW (h h' u)
structure ExcAt(h:ai)(e:aH)(o:az)(vs:bO af)(aC:D aH):Prop where
 jE:h.ao e=G o
 be:o.be= .cn vs
 an:vs.an=6
 tb:(aC=[]/\vs[1]? =G .L)\/∃tb ot pP,aC=[tb]/\vs[1]? =G (.N tb)/\h.ao tb=G ot/\ot.bi= .aA "traceback" /\ot.be= .cn pP/\4<pP.an
def SR{Q:17e3}(t:A.dX=G (ab::l))(R:ab.eb=G apt)(Y:∀v∈ab::l,r8 s.M v)
  (he:37e0=0e4) (hd:o.be= 27e1) (hs:vs.an=6) (qT:¬∃v∈ab::l,v.eb=G e)
  (h:∀h' tb m,(∀a,a<s.M.O.an->a≠e->¬(∃v∈ab::l,v.eb=11e3)->18e4=4e4)->(∀a o,4e4=0e4->(∃v∈ab::l,v.eb=11e3)->∃o',18e4=G o'/\o'.bi=o.bi/\o'.be=o.be)->
   s.M.O.an<=tb->tb<h'.O.an->h'.O.an=s.M.O.an+1->42e8=G {o with be:= .cn m}->m.an=6->m[1]? =47 tb->(∃k w,h'.ao tb=G k/\k.bi= 53e8 /\k.be= .cn w/\4<w.an)->157 ()):
  67 (do SU (9e7) 1 (<-EntryCells.newEntry rp (<-PySem.SQ ab) .L (iC apt) .L (<-entryPlaceOf apt b))):=by
 show bf (afn t R Y λh1 u=>bf (wpAny_entryPlaceOf λp g=>?_));unfold EntryCells.newEntry newFields;show bf (qr ?_ (g.sizeOk5 _ _ _ _ _));have x:h1.ao e=0e4:=(u.fE e qT).aU he;clear he;have app:e<h1.O.an:=ai.cP x;show uY (86 x) hd bM ?_;have j:h1.O.an=s.M.O.an:=u.an;obtain(⟨c,di,dt,sl⟩):=o;simp only at hd;subst hd;have n:=ai.kz (az.t6 (·.pV 1 (af.N h1.O.an))) (ai.em {bi:= 53e8,bv:=L,be:= .cn ([rp,af.N apt,.L,iC apt,.L]++(if p.jL then D.gi 6 af.L else p)).gF} x) cH;clear x;show h _ h1.O.an (vs.pV 1 (.N h1.O.an)) (λa S f r=>?_) (λa i d r=>?_) (I.hZ j.bh) ?_ ?_ n (by simpa using hs) (by simp[hs]) ?_
 ·rw[ai.t7 _ _ _ _ f];clear n h;cases q:s.M.ao a with
  |G i=>exact 86 ((u.fE a r).aU q)
  |L=>
   exact(ai.get?_push_ne _ _ _ bM).aU ((u.fE a r).aU q)
 ·show dU (u.be a i d) λo' f1 f2 P=>?_;show⟨o',?_,f2,P⟩;rw[ai.t7 _ _ _ _ (λz=>qT (by subst z;exact r))];clear qT;exact 86 f1
 ·refine _<(ai.eM _ _ _).O.an;rw[(ai.fy.eM ..).1,ai.iM];exact 40e6
 ·refine(ai.eM _ _ _).O.an=_;rw[(ai.fy.eM ..).1,ai.iM];exact bB (· +1) j
 ·show⟨{bi:= 53e8,bv:=L,be:= .cn ([rp,af.N apt,.L,iC apt,.L]++(if p.jL then D.gi 6 af.L else p)).gF},_,?_,H,H,?_⟩
  ·rw[ai.t7 _ _ _ _ (λz=>I.lN _ (z▸app))];exact 10e0
  ·simp only[D.LE,D.hN,D.m6,D.sk];split<;>simp;lia
universe e
structure sn(apu:aH->Prop)(e:aH)(o:az)(aC:D aH)(h h':ai)(tb:aH)(qU:bO af):Prop where
 fE:∀a o,h.ao a=G o->a≠e->a∉aC->¬apu a->h'.ao a=G o
 be:∀a o,h.ao a=G o->apu a->∃o',h'.ao a=G o'/\o'.bi=o.bi/\o'.be=o.be
 an:h.O.an<=h'.O.an
 jE:h'.ao e=G {o with be:= .cn qU}
 six:qU.an=6
 N:qU[1]? =G (.N tb)
 tbo:∃ot pP,h'.ao tb=G ot/\ot.bi= .aA "traceback" /\ot.be= .cn pP/\4<pP.an
 jn:tb∈aC\/h.O.an<=tb
section
variable{apB:iz}{A:df}{E:af->ae->Prop}
def afo{Q:17e3}(B:A.dX=G (ab::l))(R:ab.eb=G apt)(Y:∀v∈ab::l,r8 s.M v)
  (apw:ExcAt s.M e o vs aC) (hc:o.bi= 2e8)
  (h:∀h' tb u,sn (λa=>∃v∈ab::l,v.eb=11e3) e o aC s.M h' tb u->157 ()):
  67 (mR 9e7 ab):=by
 obtain(⟨k,hd,hs,apv⟩):=apw;have apE:∀a r vs,4e4=G r->r.be= 27e1->¬∃v∈ab::l,v.eb=11e3:=by
  intro a r vs b apx apu;(show aM apu λv d aps=>?_;try clear apu);obtain(⟨_,L',o',f1,f2,es,n,apr⟩):=Y v d;rw[aps]at f1;cases f1;rw[b]at f2;cases f2;rw[apx]at apr;cases apr
 have S:=apE e o vs k hd;unfold mR;simp only[R];obtain(⟨H,h1⟩|⟨tb,V,i,H,h1,w,apA,j,P⟩):=apv
 ·show cK (hG k hd h1 λp=>?_);show sP ap λp p=>?_;show SR B R Y k hd hs S λh' tb u k1 k2 app apy t e1 e2 e3 e4=>h h' tb u ⟨λa r b g p q=>(k1 a (ai.cP b) g q).aU b,k2,by exact I.le.nq (id (Eq.bh t)),e1,e2,e3,e4,.aD app⟩
 ·have apC:tb≠e:=λz=>by
   subst z;rw[k]at w;cases w;rw[hc]at apA;cases apA
  clear hc;have apq:=apE tb V i w j;show cK (hG k hd h1 λp=>?_);show pa (show(af.N tb !=af.L)=true from by exact al.afp.mp (xK H)) <|?_;show oE (⟨i[3],bO.ic (by exact I.LL P)⟩:∃x,i[3]? =G x) λx3 hx3=>?_;show cK (hG w j hx3 λp=>?_);by_cases apD:(x3==iC apt)=true
  ·show pa apD <|?_;show bW (h s.M tb vs ⟨λa r b p p p=>b,λa r b p=>⟨r,b,H,H⟩,11e7,?_,hs,h1,⟨V,i,w,apA,j,P⟩,.a2 28e6⟩);clear h1;rw[k];obtain(⟨c,di,dt,sl⟩):=o;simp only at hd;subst hd;rfl
  ·show kY apD <|?_;show cK (uY w j (by exact I.LL P) λp=>?_);clear w;have m:166 tb (374 (·.pV 3 .L)):=ai.fy.eM ..;have W:=(m.2 e (Ne.bh apC)).aU k;clear k;show SR B R (λv d=>(Y v d).eH λa r f b=>⟨r,(m.2 a (λz=>apq ⟨v,d,z▸f⟩)).aU b,H⟩) W hd hs S λh' t2 u k1 k2 app apy t e1 e2 e3 e4=>h h' t2 u ⟨λa r b g hr q=>?_,λa r b q=>?_,?_,e1,e2,e3,e4,.aD ?_⟩
   ·have apF:a≠tb:=λz=>hr (D.cY.bl z);clear S W h;have e5:=(m.2 a apF).aU b;exact(k1 a (ai.cP e5) g q).aU e5
   ·exact k2 a r ((m.2 a (λz=>apq (by subst z;exact q))).aU b) q
   ·have:=m.1;clear k2 k1 apq;have z3':h'.O.an=(374 (·.pV 3 .L)).O.an+1:=t;clear t;lia
   ·have apz:(374 (·.pV 3 .L)).O.an<=t2:=app;clear app;have:=m.1;clear m;exact yp (id (Eq.bh a9)) apz
def afq{e:aH}{fr:aq aH}{tb:aH}{aC:11e9}{apu:153 aH}{C:aH}{Q:17e3}(apC:sn apu e o aC h0 s.M tb qU)(d:o.bi= 2e8)
  (htF:¬apu tb) (h:∀h',sn apu e o aC h0 h' tb qU->157 ()):67 (so 9e7 fr):=by
 obtain(⟨k1,k2,z,e1,e2,e3,⟨l,t,m,u,v,w⟩,b⟩):=apC;have i:tb≠e:=λq=>by
  subst q;rw[e1]at m;cases m;have:o.bi= 53e8 :=u;rw[d]at a9;cases a9
 unfold so;show cK (hG e1 H e3 λapp=>?_);show pa (show(af.N tb !=af.L)=true from by exact al.afp.mp (xK H)) <|?_;show uY m v (by exact I.LL w) ?_;generalize(fr.ak af.L λf=>iC f)=x;have r:166 tb (374 (·.pV 3 x)):=ai.fy.eM ..;show h _ ⟨λa n p j hr k=>?_,λa n p k=>?_,?_,(r.2 e (Ne.bh i)).aU e1,e2,e3,?_,b⟩
 ·have:=k1 a n p j hr k;clear k1 e3 h;show(r.2 a λq=>?_).aU a9;subst q;rcases b with b|b
  ·exact hr b
  ·exact 31 (ai.cP p) b
 ·show aM (k2 a n p k) λo' f1 f2=>?_;exact⟨o',(r.2 a λq=>htF (q▸k)).aU f1,f2⟩
 ·have:=r.1;exact le_of_le_of_eq z (id (Eq.bh a9))
 ·obtain(⟨c,di,dt,sl⟩):=l;clear r;simp only at v;subst v;exact⟨_,_,258 m H,u,H,by simpa using w⟩
universe e
def aJ.note{x:Fx}{J:aV}{F:MS}{s:ae}{h':ai}(R:0e9)(jy:F.T=[]){i:I}{p:9e4}{C:aH}{d:0e1}(apq:J[i]? =5e1)(apy:22e1 =G (.a7 C d)){o:az}{aC:11e9}{tb g:aH}{qU:16e5}
  (hp:p.2=g::aC) (LN:s.M.ao p.1=0e4) (apC:sn (FA x) p.1 o aC s.M h' tb qU):
  aJ x (J.cM i (p.1,[g,tb])) F 36e1:=by
 obtain(⟨k1,k2,z,e1,e2,e3,SV,W⟩):=apC;have d2:∀a,68 (J.cM i (p.1,[g,tb]))->14e2\/s.M.O.an<=a:=by
  intro a SW;(show aM SW λq P r=>?_;try clear SW);rcases D.B8 P with P|rfl
  ·exact .a2 ⟨q,P,r⟩
  ·have hm:p∈J:=D.ja apq;show tO r ?_ ?_ ?_
   ·exact .a2 ⟨p,hm,D.dP ..⟩
   ·exact .a2 ⟨p,hm,by unfold dT;rw[hp];simp⟩
   ·rcases W with W|W
    ·exact .a2 ⟨p,hm,by unfold dT;rw[hp];simp[W]⟩
    ·exact .aD W
 have SX:∀a,a=p.1\/a∈aC->14e2:=λa r=>⟨p,D.ja apq,by unfold dT;rw[hp];rcases r with H|r<;>simp[*]⟩;have apE:∀a o,4e4=0e4->¬14e2->¬FA x a->18e4=0e4:=λa S u no ap7=>k1 a S u (λq=>no (SX a (.a2 q))) (λq=>no (SX a (.aD q))) ap7;have tk:jr s.M h':=by
  obtain(⟨_,dx0,rest0,_,_,vs0,sl0,SY,g10,_,_,_,g50⟩):=42 i apy apq;rw[hp]at SY;(show oA (D.aP.cE SY) λapx apB=>?_;subst apx;subst apB);show λa S u t=>k1 a S u (λq=>?_) (λq=>?_) (R.lv u (Rk t))
  ·rw[q,g10]at u;cases u;cases t
  ·rcases g50 with⟨e,_⟩|⟨tb0,ot0,tvs0,e,_,h3,h4,h5,_⟩<;>rw[e]at q
   ·exact nomatch q
   ·rw[52e8,h3]at u;cases u;unfold iu at t;rw[h4,h5]at t;exact bL t (show¬(("traceback" == "code")=true)from ap)
 have bR:f8 J (J.cM i (p.1,[g,tb])) s.M h':=by
  have aps:∀a S,4e4=G S->¬14e2->¬68 (J.cM i (p.1,[g,tb])):=λa S u no q=>(d2 a q).ak no λq=>31 (ai.cP u) q;show⟨λa aO e=>?_,λa aO e no=>?_,λa b n e no=>⟨apE a _ e no (R.lv e λapA apA q=>by cases q),aps a _ e no⟩,λj q e=>?_,λapA apA=>jr.dG tk⟩
  ·(show gD e λS u apD n hd=>?_;try clear e);show⟨S,?_,apD,n,hd⟩;by_cases Q:14e2
   ·exact bL apD (R.By Q u _ _ hd)
   ·exact apE a S u Q 56e3
  ·(show gD e λS u apD n hd=>?_;try clear e);exact⟨⟨S,apE a S u no 56e3,apD,n,hd⟩,aps a _ u no⟩
  ·by_cases apw:i=j
   ·rw[<-apw,apq]at e;cases e;rw[<-apw];show⟨(p.1,[g,tb]),?_,H⟩;rw[D.LO (116 apq)]
   ·exact⟨q,by rw[D.afr apw];exact e,H⟩
 obtain(⟨hdl,dx',rest',es,n,vs,sl,hp',g1,g2,g3,aqP,_⟩):=42 i apy apq;rw[hp]at hp';(show oA (D.aP.cE hp') λapx apB=>?_;subst apx;subst apB);rw[LN]at g1;cases g1;clear g1;have abr:g≠p.1:=λq=>by rw[q]at g2;rw[LN]at g2;cases g2
 clear LN;have ndp:(24e3).dS:=by
  have:=R.nd;rw[D.dS,D.yg]at a9;exact a9.1 p (D.ja apq)
 have dxr:g∉aC:=by
  have h2:(p.1::g::aC).dS:=by have h3:=ndp;unfold dT at h3;rw[hp]at h3;exact h3
  exact(D.jd.mp (D.jd.mp h2).2).1
 have dxF:¬FA x g:=λq=>(R.fx g q).2 ⟨p,D.ja apq,by unfold dT;rw[hp];simp⟩;have e4:h'.ao g=G (hJ es n):=k1 g _ g2 abr dxr dxF;clear g2;(show jA SV λot pP t1 t2 t3 t4=>?_;try clear SV);have tne:tb≠p.1:=λq=>by
  rw[q]at t1;rw[e1]at t1;cases t1;cases t2
 have tnd:tb≠g:=λq=>by
  rw[q]at t1;rw[e4]at t1;cases t1;cases t3
 have up:∀a,68 (J.cM i (p.1,[g,tb]))->a<h'.O.an:=by
  intro a r;rcases d2 a r with h|h
  ·exact I.mF (R.up a h) z
  ·show aM r λq P r=>?_;rcases D.B8 P with P|rfl
   ·exact I.mF (R.up a ⟨q,P,r⟩) z
   ·exact tO r (ai.cP e1) (ai.cP e4) (ai.cP t1)
 have LP:lr<=s.M.O.an:=351 (R.hK _ 2e6) (R.m8 _ 2e6);have apv:∀a,¬14e2->a<s.M.O.an->¬68 (J.cM i (p.1,[g,tb])):=λa h1 h2 q=>(d2 a q).ak h1 λq=>31 h2 q;have afs:∀j q,J[j]? =G q->j≠i->tb∉dT q:=by
  intro j q A B r;rcases W with W|W
  ·exact B (R.sg A apq r (by unfold dT;rw[hp];simp[W]))
  ·exact 31 (R.up tb ⟨q,D.ja A,r⟩) W
 have apu:∀a,a=p.1\/a=g\/a∈aC->a∈24e3:=λa h=>by unfold dT;rw[hp];rcases h with H|rfl|h<;>simp[*]
 clear hp;have dis:∀j q a,J[j]? =G q->j≠i->a∈dT (p.1,[g,tb])->a∉dT q:=by
  intro j q a A B r;exact tO r (λP=>B (R.sg A apq P (apu _ 2e6))) (λP=>B (R.sg A apq P (apu _ 15e6))) (afs j q A B)
 show⟨λq P=>?_,by rw[D.vK];exact R.cR,λj ap8 q f1 f2=>?_,?_,λa r=>(d2 a r).ak (R.gy a) (I.dV LP),up,⟨?_,λk v apA b=>?_⟩,λa r=>apv a (R.bH a r) (R.m8 a r),R.hK,R.b2,λz n c apD=>?_,λl hl v hv=>(R.gz l hl v hv).eH λa S f u=>?_,λa r=>⟨(120 r).1,apv a (120 r).2 (R.tU a r)⟩,R.dC,R.os,tk.Y R.cV⟩
 ·have h1:=I.si.mp (D.ib.mp (BW x.w.bU) q P);clear apv up d2;exact apE _ _ (R.d7 q P) (λq=>31 h1 (R.gy _ q)) (λq=>31 h1 (R.fx _ q).1)
 ·by_cases apw:j=i
  ·rw[apw,apy]at f1;cases f1;rw[apw,D.LO (116 apq)]at f2;cases f2;exact⟨hdl,g,[tb],es,n,qU,sl,H,e1,e4,xY bR g3,e2,.aD ⟨tb,ot,pP,H,e3,t1,t2,t3,t4⟩⟩
  ·rw[D.afr (Ne.bh apw)]at f2;clear e4 e1 t2 t1 t3;show se bR (λa r S u=>k1 a S u (λz=>apw (R.sg f2 apq r (apu a (.a2 z)))) (λz=>apw (R.sg f2 apq r (apu a (79 z)))) (λz=>(120 z).2 ⟨q,D.ja f2,r⟩)) (R.O j ap8 q f1 f2)
 ·have nd:=R.nd;clear bR;rw[D.dS,D.yg]at nd⊢;show⟨λq P=>?_,?_⟩
  ·rcases D.B8 P with P|rfl
   ·exact nd.1 q P
   ·refine(dT (p.1,[g,tb])).dS;clear P;unfold dT;simp only[D.jd,D.eR,D.mn,mo,Qb,aft,D.kP,td];exact⟨⟨Ne.bh abr,Ne.bh tne⟩,Ne.bh tnd⟩
  ·have pw:=nd.2;rw[D.Sj]at pw⊢;intro a b r apz E;rw[D.vK]at r apz;rw[D.getElem_set,D.getElem_set];split
   ·rename_i h1;subst h1;rw[d5 (by exact I.ip E)];intro app apt w apF e;subst e;exact dis b _ app (D.ic apz) (by exact Ne.bh (I.ip E)) apt apF
   ·split
    ·rename_i h1 h2;subst h2;intro app apt w apF e;subst e;exact dis a _ app (D.ic r) (by exact I.ip E) apF apt
    ·exact pw a b r apz E
 ·obtain(⟨m,⟨oL,es',ep,f1,hd,hs⟩,_⟩):=R.bp.iN;have:∃o',h'.ao x.ab.cX=G o'/\o'.be=oL.be:=by
   by_cases q:FA x x.ab.cX
   ·show dU (k2 _ _ f1 q) λo' f2 apA apr=>?_;exact⟨o',f2,apr⟩
   ·exact⟨oL,apE _ _ f1 (R.bH _ 2e6) q,H⟩
  (show aM a9 λo' f2 apr=>?_;try clear a9);exact⟨m,⟨o',es',ep,f2,apr.aU hd,hs⟩,λk v apA b=>by rw[jy]at b;cases b⟩
 ·rw[jy]at b;cases b
 ·show gd (R.hj z n c apD) λw oc f1 f2=>?_;exact⟨w,oc,apE c oc f1 (R.bH c (247 z n apD)) (R.lv f1 λapA apA q=>by rw[f2]at q;cases q),f2⟩
 ·show dU (k2 a S u ⟨l,hl,v,hv,f⟩) λo' f2 apA apr=>?_;clear u;exact⟨o',f2,apr⟩
def afu(p:x.A.dX=G l):FA x=λa=>∃v∈l,v.eb=11e3:=by
 funext a;apply qV;constructor
 ·intro s;obtain(⟨l',h,e,b,r⟩):=s;rw[p]at h;cases h;exact⟨e,b,r⟩
 ·exact(by intro s;(show aM s λe b r=>?_;try clear s);exact⟨l,p,e,b,r⟩)
def excAt{x:Fx}{J:aV}{F:MS}{s:ae}(R:0e9){i:I}{C:aH}{d:0e1}(b:22e1 =G (.a7 C d)):
  ∃p o vs e aC,J[i]? =5e1/\p.2=e::aC/\o.bi= 2e8/\ExcAt s.M p.1 o vs aC/\s.M.ao p.1=0e4:=by
 have a:i<J.U:=by rw[R.cR];exact(116 b)
 obtain(⟨l,e,aC,es,n,vs,sl,q,g1,g2,g3,w,j⟩):=R.O i _ J[i] b (D.ic a);show⟨J[i],_,vs,e,aC,D.ic a,q,H,⟨g1,H,w,?_⟩,g1⟩;rcases j with h|⟨tb,v,k,h1,h2,h3,r,u,m⟩
 ·exact 25e7
 ·exact .aD ⟨tb,v,k,h1,h2,h3,r,u,m⟩
def SZ{J aB:aV}{i:I}(h:J.U<=i)(q:9e4):(J++aB).cM i q=J++aB.cM (i-J.U) q:=by
 rw[D.afv _ _ h]
def afw{x:Fx}{J aB:aV}{F:MS}{s:ae}{h0 h':ai}(R:295 F s){i:I}{p:9e4}{j tb:aH}{aC:11e9}{o:az}{d:16e5}(apv:56 J x h0 s.M)(c:J.U<=i)(l:(J++aB)[i]? =5e1)(v:p.2=j::aC)
  (apC:sn (FA x) p.1 o aC s.M h' tb d):Kp J (aB.cM (i-J.U) (p.1,[j,tb])) x h0 h':=by
 have hm:p∈aB:=by
  rw[D.lA c]at l;exact D.ja l
 have fk:∀a,a∈24e3->46e4=L:=λa m=>apv.fk a ⟨p,hm,m⟩;have w:∀a o,46e4=0e4->a≠p.1/\a∉aC:=λa o e=>by
  exact⟨λq=>(224 (fk a (q▸D.dP ..)) e),λq=>(224 (fk a (by unfold dT;rw[v];simp[q])) e)⟩
 show⟨λa b e t f g app=>?_,λa b e f g=>?_,λa o e t n=>?_,λa o e=>?_,?_⟩
 ·show oA (w a b e) λn1 r=>?_;exact apC.fE a b (apv.bR a b e t f g app) n1 r f
 ·show dU (apv.js a b e f g) λo1 e1 c1 d1=>?_;show dU (apC.be a o1 e1 f) λo2 e2 c2 z=>?_;exact⟨o2,e2,c2.aU c1,z.aU d1⟩
 ·have e1:=apv.iV a o e t n;show oA (w a _ e) λn1 r=>?_;exact apC.fE a _ e1 n1 r (R.lv e1 (Rk t))
 ·show oA (w a o e) λn1 r=>?_;show oE (apv.g5 a o e) λo1 e1=>?_;by_cases f:FA x a
  ·show aM (apC.be a o1 e1 f) λo2 e2 S=>?_;exact⟨o2,e2⟩
  ·exact⟨o1,apC.fE a o1 e1 n1 r f⟩
 ·intro a u;(show aM u λq k m=>?_;try clear u);rcases D.B8 k with k|rfl
  ·exact apv.fk a ⟨q,k,m⟩
  ·show tO m ?_ ?_ ?_
   ·exact fk _ (D.dP ..)
   ·exact fk _ (by unfold dT;rw[v];simp)
   ·rcases apC.jn with h|h
    ·exact fk _ (by unfold dT;rw[v];simp[h])
    ·cases P:h0.ao _ with
     |L=>rfl
     |G o=>
      clear k;show oE (apv.g5 _ o P) λo1 e1=>?_;exact 31 (ai.cP e1) h
def aJ.nl{x:Fx}{J:aV}{F:MS}{s:ae}(R:0e9):160 (4 F.O F.bE):=by
 show⟨R.d7,R.cR,R.O,R.nd,R.gy,R.up,⟨?_,λk v h b=>by cases b⟩,R.bH,R.hK,R.b2,R.hj,R.gz,R.fx,R.dC,R.os,R.cV⟩;obtain⟨m,e,_⟩:=R.bp.iN;exact⟨m,e,λk v h b=>by cases b⟩
def Ta{x:Fx}{J aB:aV}{a:MS}{s':ae}{h0:ai}{i:I}{u:af}{l:D ez}{Q:17e3}{EE:0e5}{m:df}(k:x.A.dX=G (x.ab::l))(t:m.dX=x.A.dX)(f:x.ab.eb=G x.ab.cX)
  (R':206 (4 a.O a.bE)) (K':56 J x h0 s'.M) (hx:x4 J a i) (ru:RV (J++aB) s'.M 15e9 u)
  (h:∀(h1:ai) (iU:aV) (p:9e4) (tb:aH) (e:16e5) (o:az) (aC:11e9) (s C:aH),sn (FA x) p.1 o aC s'.M h1 tb e->o.bi= 2e8->u= 7e2->165 J iU (4 a.O a.bE) {s' with M:=h1}->Kp J iU x h0 h1->RV (J++iU) h1 15e9 u->¬FA x tb->
   (∀h2,sn (FA x) p.1 o aC s'.M h2 tb e->165 J iU (4 a.O a.bE) {s' with M:=h2}/\Kp J iU x h0 h2/\RV (J++iU) h2 15e9 u)->Q () {s' with M:=h1}):
  aX 3e0 m (mR u x.ab) Q EE s':=by
 (show sM hx λr C b=>?_;try clear hx;show oE b λd v=>?_;try clear b);(show nn (excAt R' v) λp o vs b=>?_;show uC b λs aC e1 e2 w apw c=>?_;try clear b);cases ru using mD.cD with
 |Z app e3=>
  rw[e1]at e3;cases e3;have fa:=afu k;have dI:∀h2 tb e,sn (FA x) p.1 o aC s'.M h2 tb e->aJ x (J++aB.cM (i-J.U) (p.1,[s,tb])) (4 a.O a.bE) {s' with M:=h2}/\Kp J (aB.cM (i-J.U) (p.1,[s,tb])) x h0 h2/\RV (J++aB.cM (i-J.U) (p.1,[s,tb])) h2 15e9 7e2:=by
   intro h2 tb e apC;have n:=R'.note H e1 v e2 c apC;rw[SZ r]at n;show⟨n,afw R' K' r e1 e2 apC,?_⟩;have:(J++aB.cM (i-J.U) (p.1,[s,tb]))[i]? =G (p.1,[s,tb]):=by
    rw[<-SZ r,D.LO (116 e1)]
   exact .Z i (p.1,[s,tb]) a9
  show afo (t.aU k) f (R'.gz _ k) apw w λh1 tb e apC=>?_;rw[<-fa]at apC;have z:=dI h1 tb e apC;show h h1 _ p tb e o aC s C apC w H z.1 z.2.1 z.2.2 (λq=>?_) λh2 j=>dI h2 tb e j;exact(z.1.fx tb q).2 ⟨(p.1,[s,tb]),D.uM _ (D.mem_iff_getElem?.bl ⟨i-J.U,by
   rw[D.LO]
   rw[D.lA r]at e1
   exact(116 e1)⟩),by simp[dT]⟩
def afx{x:Fx}{J aB:aV}{F b:MS}{s s1 s':ae}(R:0e9){ab:ez}(hL:ab.cX=s.M.O.an)(m:ab.eb=31e7)(gJ:∀n c,(n,c)∈ab.b2->ab.cX<c)(v:39e9)
  (ie:48e5) (pU:51e0) {i:I} {u:af} {EE ap9:0e5}
  (R':aJ 5e4 (J++aB) (4 b.O b.bE) s') (K':56 J 5e4 s1.M s'.M) (hx:x4 J b i) (ru:RV (J++aB) s'.M 15e9 u)
  (h:∀r e,165 J r (4 b.O b.bE) e->70 r e.M->RV (J++r) e.M 15e9 u->EE u e):
  aX 3e0 46e9 (rj ab u) (λS e=>EE u e) ap9 s':=by
 (show oE v λl k=>?_;try clear v);have f:(5e4).A.dX=G (ab::l):=by refine 38e9=_;rw[k];rfl
 unfold rj;show bf (Ta (x:=5e4) f H m R' K' hx ru λh1 iU p tb apq o aC P C apC t j g apA r1 d dI=>?_);clear ru r1;subst j;show afq (s:={s' with M:=h1}) apC t d λh2 w=>?_;show hT (dI h2 w) λq app r2=>?_;have z:=R.B7 39e0 m gJ ⟨l,k⟩ ie pU q app;exact h iU _ z.1.nl z.2 r2
set_option backward.match.sparseCases true
def aG.LQ{x:Fx}{J:aV}{F:MS}{s s1:ae}{rb:2e9}{ab:ez}{Q:0e5}{EE:0e5}
  (R:0e9) (hL:ab.cX=s.M.O.an) (hf:ab.eb=31e7) (gJ:∀n c,(n,c)∈ab.b2->ab.cX<c) (hA:39e9)
  (ie:48e5) (pU:51e0) (P:10 (B5 F rb)):
  aG 5e4 J s1 rb RF (λf s'=>Q 55e3 s') (λe s'=>aX 3e0 46e9 (rj ab e) (λz p=>EE e p) (λapp p=>EE app p) s'):=by
 have d:∀{aB:aV} {bQ:MS} {s':ae},aJ 5e4 (J++aB) bQ s'->56 J 5e4 s1.M s'.M->206 ⟨bQ.O,F.T,bQ.bE⟩/\38e6:=λb h=>R.B7 39e0 hf gJ hA ie pU b h;unfold B5 at P;cases rb with
 |aS a bQ ob=>
  show⟨(26e9).1,λaB s' u b h w=>?_⟩;have j:=26e3;show oA (d b h) λk m=>?_;cases w with
  |next=>exact j.2 aB s' .L k m 14e9
  |bj r=>exact j.2 aB s' _ k m r
 |a7 i bQ ob=>
  exact⟨P.1,λaB s' u q b h w=>afx R hL hf gJ hA ie pU b h q w λt p k m r2=>P.2 t p u q k m r2⟩
 |no=>exact P.ak
def LR{d d0:I}{fa:aH}{fn:Fn}{fd:jB}{B:11e1}{as:0e0}{F:MS}{x:Fx}{J:aV}{s:ae}{us:2e4}{Q:0e5}{EE:0e5}(apv:yo fa fn fd B)(E:(as++39e1).U=fn.ps.U)
  (Y:x.Ok d0) (B9:x.A.g7+1+2*d+2<DG) (Ca:x.A.jb+3+20*d+20<cLine) (R:0e9) (rs:169 as)
  (h:∀(ab:ez) (s1:ae),ab.cX=s.M.O.an->ab.eb=31e7->ab.br=fd.br->(∀n c,(n,c)∈ab.b2->ab.cX<c)->(∃l,x.A.dX=G l)->(∀a o,4e4=0e4->s1.M.ao a=0e4)->s.M.O.an<=s1.M.O.an->(5e4).Ok d->
   aJ 5e4 J ⟨F.O,fn.ps.fw (as++39e1),F.bE⟩ s1->(ab.dG=fd.dG/\ab.pt=fd.pb++ ".<locals>.")->
   346 (mh B ab) (λf s'=>Q 55e3 s') (λe s'=>aX 3e0 46e9 (rj ab e) (λm g=>EE e g) (λapu g=>EE apu g) s') s1):
  25 (aW (.N fa) us):=by
 show aM (apv.Z x.w.bU) λo hm hd=>?_;show aM (apv.cq s x.w.bU R.d7 J as us rs E) λapr P C=>?_;show aM Y.dX λl i apz=>?_;have apx:=iw P;have apw:∀app∈(fn.ps.aj nm).fw apr,app.1∈fn.ps.aj nm:=λapp j=>(D.of_mem_zip j).1;show rh (OH (cW:=B) bM (R.d7 _ hm) hd apv.co apv.gen apv.cW (apv.dG _ _ R.d7) (C _ _ _ _ ?_));rw[apv.SM];show afy apv.d8 (λapp j=>?_) λab b s1 xc=>?_
 ·show aM (D.sp.mp (apw app j)) λp u e=>?_;rw[<-e];rcases apv.pk p u with h|h
  ·exact 25e7
  ·exact .aD ⟨h,vJ 25e7⟩
 have hL:ab.cX=s.M.O.an:=bB (·.cX) b;have w:ab.eb=31e7:=(bB (·.eb) b).aU (bB (G ·.cX) b).bh;have r:ab.br=fd.br:=bB (·.br) b;have t:ab.b2=t5 (179 1) fd.br.bp []:=bB (·.b2) b;have apA:ab.g8=iB:=(bB (·.g8) b).aU apv.vw;have apD:ab.jC=mU:=(bB (·.jC) b).aU apv.jN;have gJ:∀n c,(n,c)∈ab.b2->ab.cX<c:=λn c h=>xc.LJ n c h;have S:=xc.oX.bR;have A:s.M.O.an<=s1.M.O.an:=by
  have:=xc.oX.ns.lt;rw[hL]at a9;exact I.jx a9
 have z:∀n,37e4=fd.br.bp.bY n:=λn=>by unfold ez.dA;rw[r]
 have apq:∀n,37e4≠23e5:=λn h=>by
  rw[z]at h;exact apv.SN _ (nc h) H
 show⟨LI (λp u=>S _ _ (R.d7 p u)),OF ?_⟩;have apE:=R.sQ (apt:=0) (T:=fn.ps.fw (as++39e1)) hL xc w (by rw[r];exact apv.d8) ⟨l,i⟩ (by rw[t];exact SK apv.bp D.kP λm m h=>nomatch h)
  (λk v e=>SJ _ _ apv.SO P k v e) (λn h=>by
   rcases h with h|h
   ·rw[t];rw[z]at h;exact vJ 25e7
   ·exact bL h (apq n))
 have W:(5e4).Ok d:=by
  show⟨by refine ab.br.d8=_;rw[r];exact apv.d8,apA,apD,λn h=>?_,by refine x.A.g7+1+_+_<_;exact I.LT B9,by refine x.A.jb+3+_+_<_;exact I.LT Ca,Y.e8,Y.j5,⟨ab::l,by refine 38e9=_;rw[i];rfl,λm=>⟨l,H,w⟩⟩,λq=>nF q⟩;rcases h with h|h
  ·refine(378 n)=true;have h':37e4=18e8:=h;rw[t];rw[z]at h';exact vJ (.a2 h')
  ·exact bL h (apq n)
 exact h ab s1 hL w r gJ ⟨l,i⟩ S A W apE ⟨bB (·.dG) b,bB (·.pt) b⟩
def afz{d:I}{fa:aH}{fn:Fn}{fd:jB}{B:11e1}{as:0e0}{F:MS}{rb:2e9}(apv:yo fa fn fd B)(w:(as++39e1).U=fn.ps.U)
  (aqa:JB d fd.br B ⟨F.O,fn.ps.fw (as++39e1),F.bE⟩ rb):JC (d+1) (5 fa) as F (B5 F rb):=by
 intro x J s u us Q EE Y R a b P;cases a;have j:=Y.g7;have i:=Y.jb;show LR (d:=d) apv w Y bM bM R b λab s1 hL n q gJ v k r m p l=>?_;exact eW (aqa 5e4 J s1 _ _ m q H pT.rj p (aG.LQ R hL n gJ v k r P)) (λf s' h=>h) (λe s' h=>h)
universe e
section
open PySem PySem.W PyProof.Rows PySem.Calls PySem.Spec PySem.SeqAt
open Builtin hiding id
set_option backward.match.sparseCases false
def Tb{α:Type}{l:34e9}{n:I}{c:α}:l.bY n=G c->(n,c)∈l:=by
 induction l with
 |aQ=>intro h;cases h
 |aP p r x=>
  obtain⟨k,v⟩:=p;intro h;rw[D.lB]at h;cases s:n==k with
  |true=>rw[s]at h;cases h;rw[AA.mp s];exact D.dP
  |false=>rw[s]at h;exact 54 (x h)
def sr{h:ai}{P:aw}(A:253 h):dQ.In 8e0 h:=λa o e=>A _ (Tb e)
section
variable{bb:gR}{w:eA}{A:df}{E:af->ae->Prop}{s:ae}
def Tc{Q Q₁:0e5}(hd:∃oc n cd sl,s.M.ao C=G ⟨oc,n,.bi cd,sl⟩)
  (LV:e6 6e2 s.M (Cb 2e8 "__call__") (G 55e6)) (LX:e6 6e2 s.M (st 2e8 46e7) true)
  (LY:e6 6e2 s.M (Ax 2e8) qs) (qT:qs.jL=false) (LZ:e6 6e2 s.M (Bind.madeBy 2e8) (G newId))
  (JN:uV 6e2 48e6 (.aW (.bI newId) ⟨2e8::us,[]⟩) (uW Q₁ E) s)
  (JO:∀Z x,Q₁ Z x->272 w 48e6 (st Z 2e8) (λb s'=>b=true/\s'=x) E x/\
   272 w 48e6 (Cb Z "__init__") (λr s'=>r=47 jI/\s'=x) E x/\
   272 w 48e6 (bindSpecial (.N jI) Z) (λr s'=>r=(.N jI,[Z])/\s'=x) E x/\
   133 48e6 (aW (.N jI) (Z::us)) (λr s'=>r= .L/\Q Z s') E x):
  133 A (aW 2e8 us) Q E s:=by
 (show nn hd λoc n cd m=>?_;try clear hd;show oE m λsl i=>?_;try clear m);show rh (mf H ?_);refine aL _ _ (sS 2e8 _) _ _ _;show aL.of ?_;show nd_load i ?_;refine aX _ _ (sS.viaDunder 2e8 _) _ _ _;unfold sS.viaDunder;show cK (LV.eS λh=>?_);dsimp only;rw[tc_bind];show bf (293 20e3);show bW (a:=PySem.ky.mg (.aW 55e6 ⟨2e8::us,[]⟩)) (i3.nq H ?_);show mf H ?_;refine aL _ _ (do w6 "type.__call__" ⟨2e8::us,[]⟩;mg (384 us)) _ _ _;show eP (Td tc_kind tc_split LX (tc_args _ _ _) (bG (i3.nq (fQ.Pz _ 9e2) ?_)));show JL entry_typeCall 9e2 ?_;unfold Builtin.«type.__call__»;show me (by exact al.lK) λh h=>?_;show fe (LY.eS λh=>?_);show uE (by rw[qT];decide) <|?_;show fe (LZ.eS λh=>?_);show 29e2;show 183 (JP (abX JN λr x hr=>?_));cases r with
 |dH e=>exact hr
 |Y fl=>
  cases fl with
  |bj Z=>
   show lG (JO _ _ hr) λh1 h2 h3 q=>?_;show 147 h1 (λb s' e=>?_) 54e4;clear h1;(show oA e λp k=>?_;try clear e;subst p;subst k);show uE ap <|?_;show 91 ?_;unfold Aw;show 147 h2 (λr v e=>?_) 54e4;clear h2;(show oA e λp k=>?_;try clear e;subst p;subst k);show dg (147 h3 (λr v e=>?_) 54e4);clear h3;(show oA e λp k=>?_;try clear e;subst p;subst k);show aY (eW q (λr v e=>?_) 54e4);(show oA e λp u=>?_;try clear e;subst p);exact bG (bG u)
  |_=>exact hr.ak
universe e
def Fx.wA(x:Fx)(A:df):Fx:=⟨x.w,A,x.ab,x.os,x.fz⟩
def L0{x:Fx}{A:df}(h:A.dX=x.A.dX):FA (x.wA A)=FA x:=by
 funext a;unfold FA Fx.wA;rw[h]
def aJ.wA{x:Fx}{A:df}(h:A.dX=x.A.dX){J:aV}{F:MS}{s:ae}:aJ (x.wA A) J F s ↔ 0e9:=by
 have r:=L0 h;constructor
 ·intro R;exact⟨R.d7,R.cR,R.O,R.nd,R.gy,R.up,⟨R.bp.iN,R.bp.eU⟩,R.bH,R.hK,R.b2,R.hj,λl e=>R.gz l (h.aU e),λa b=>120 (r▸b),R.dC,R.os,R.cV⟩
 ·intro R;exact⟨R.d7,R.cR,R.O,R.nd,R.gy,R.up,⟨R.bp.iN,R.bp.eU⟩,R.bH,R.hK,R.b2,R.hj,λl e=>R.gz l (h.bh.aU e),λa b=>120 (r▸b),R.dC,R.os,R.cV⟩
def Kp.wA{x:Fx}{A:df}(h:A.dX=x.A.dX){J aB:aV}{r h2:ai}:56 J (x.wA A) r h2 ↔ 56 J x r h2:=by
 have s:=L0 h;constructor
 ·intro apv;exact⟨λa o e t f g b=>apv.bR a o e t (by rw[s];exact f) g b,λa o e f g=>apv.js a o e (by rw[s];exact f) g,apv.iV,apv.g5,apv.fk⟩
 ·intro apv;exact⟨λa o e t f g b=>apv.bR a o e t (by rw[<-s];exact f) g b,λa o e f g=>apv.js a o e (by rw[<-s];exact f) g,apv.iV,apv.g5,apv.fk⟩
def aG.wA{α β:Type}{x:Fx}{A:df}(h:A.dX=x.A.dX){J:aV}{s:ae}{r:3e3}{bq:17e8}{Q:12e2}{EE:0e5}(P:27e7):aG (x.wA A) J s r bq Q EE:=by
 cases r with
 |aS a F ob=>exact⟨P.1,λaB s' u R apv r=>P.2 aB s' u ((aJ.wA h).mp R) ((Kp.wA h).mp apv) r⟩
 |a7 i F ob=>exact⟨P.1,λaB s' u e R apv r=>P.2 aB s' u e ((aJ.wA h).mp R) ((Kp.wA h).mp apv) r⟩
 |no=>exact P.ak
structure Te(C jI:aH):Prop where
 Z:∀P,∃oc od cd sl,(C,(⟨oc,od,.bi cd,sl⟩:az))∈KL P
 makes:∀P,Cc (KL P) C=true
 L1:∀P,iH (KL P) (.N C) "__init__" =G (G (.N jI))
 fn:∀P,yq (KL P) (.N jI)=G (.aA "function")
def afA(C:aH)(k:aps)(F:MS)(f:V->MS->3e2):3e2:=(F.jn k).aE λo F=>(f o F).aE λa F=>gB (tx a) 151 (7 o)
def nR{A:df}{C:aH}{us:2e4}:48e6={A with g7:=A.g7+1,jb:=A.jb+1}:=by
 obtain(⟨a,b,c,d,e⟩):=A;refine(⟨a,b+(fQ.bI "type.__call__" ⟨.N C::us,[]⟩).weight,pushEnvs (fQ.bI "type.__call__" ⟨.N C::us,[]⟩).envs c,pushGuards (fQ.bI "type.__call__" ⟨.N C::us,[]⟩).j5 d,e+(fQ.bI "type.__call__" ⟨.N C::us,[]⟩).cUnits⟩:df)=_;have e1:(fQ.bI "type.__call__" ⟨2e8::us,[]⟩).weight=1:=H;have e2:(fQ.bI "type.__call__" ⟨2e8::us,[]⟩).cUnits=1:=H;have e3:(fQ.bI "type.__call__" ⟨2e8::us,[]⟩).envs=[]:=H;have e4:(fQ.bI "type.__call__" ⟨2e8::us,[]⟩).j5=[]:=by
  unfold fQ.j5;exact d5 (show¬(Pu.hU "type.__call__")=true by decide+cm)
 rw[e1,e2,e3,e4,pushEnvs_eq,pushGuards_eq];cases c<;>cases d<;>rfl
def Tf{d:I}{C jI:aH}{as:0e0}{F:MS}{f:V->MS->3e2}(apv:Te C jI)(B:∀o aR,JC d (5 jI) (o::as) aR (f o aR)):
  JC (d+1) (5 C) as F (afA C (112 []) F f):=by
 intro x J s u us Q EE Y R z apx P;cases z;have apw:=sr R.d7;have apD:=makes_of (apB:=3e0) apw (apv.makes x.w.bU);obtain⟨cd,w⟩:∃cd,e6 (bc x) s.M (Ax (.N C)) cd/\cd.jL=false:=by
  obtain(⟨⟨oc,apz,cd,sl,h,e1,e2,e4⟩,_⟩):=apD;exact⟨cd.qs,((e6.ld (ve:=L) h).iX .oY).iX .oY,e4⟩
 have q:=Cd (apB:=3e0) apw (apv.L1 x.w.bU);have apA:=apD;obtain(⟨⟨oc,apz,apy,sl,h,_⟩,made,Ce,oz,jY,aW,typ⟩):=apA;have r:(x.A.hF (384 us)).dX=x.A.dX:=by rw[nR]
 show Tc (Q₁:=λZ v=>Z= 24e0/\v={s with M:=35e3 28e8}) ⟨_,_,_,_,h⟩ aW typ w.1 w.2 made ?_ ?_ (jI:=jI)
 ·exact new_K apD q 2e6 15e2
 ·rintro Z v ⟨H,H⟩;have k:∀b o,8e8=0e4->(35e3 28e8).ao b=0e4:=λb o e=>340 e;have i:(35e3 28e8).ao (179 1)=G 28e8:=by
   have:=ai.fF (s.M.b5 nT) (o:=28e8) H;rwa[ai.iM]at a9
  have apr:(35e3 28e8).ao s.M.O.an=G nT:=86 10e0;have t1:171 (35e3 28e8) (pW 24e0) 2e8:=(e6.ld i).iX .oY;have apu:dQ.In 36e5 (35e3 28e8):=apw.eH k;have nH:171 (35e3 28e8) (st 24e0 2e8) true:=t1.iX (f:=λt=>lL t 2e8) (oz.eH k);show⟨nH.eS 15e2,(show 171 (35e3 28e8) (Cb 24e0 "__init__") (47 jI)from t1.iX (f:=λt=>pm t "__init__") (q.eH k)).eS 15e2,(bind_fn apu _ (apv.fn x.w.bU)).eS 15e2,?_⟩;have apC:=R.Li (p:=(s.M.O.an+1,39e8)) (o:= 112 []) (h':=35e3 28e8) k (by rw[ai.iM,ai.iM];lia)
   (λa A=>by rw[ai.iM,ai.iM];exact Bx A ⟨37e9,40e6⟩ ⟨11e7,I.yr 40e6 40e6⟩) (by simp[dT]) R.m8
   ⟨by simp,s.M.O.an,[],0,#[],H,i,apr,.aQ⟩ s.a0
  have c:=P.oU.qL (s1:={s with M:=35e3 28e8}) apC.2;have n:RV (J++[(s.M.O.an+1,39e8)]) (35e3 28e8) (.Z F.O.U) 24e0:=
   .Z _ (s.M.O.an+1,39e8) (by rw[<-R.cR,28e5,I.jj];rfl)
  have S:(380 us).Ok d:=by
   obtain(⟨o1,o2,E,o4,apF,aps,o7,app,apq,g⟩):=Y;show⟨o1,o2,E,o4,?_,?_,?_,?_,?_,g⟩
   ·refine(31e3).g7+_+_<_;rw[nR];refine x.A.g7+1+_+_<_;lia
   ·refine(31e3).jb+_+_<_;rw[nR];refine x.A.jb+1+_+_<_;lia
   ·refine(31e3).e8=_;rw[nR];exact o7
   ·refine(31e3).j5=_;rw[nR];exact app
   ·refine∃l,(31e3).dX=_/\_;rw[r];exact apq
  show B (.Z F.O.U) _ (x.wA _) _ _ _ _ _ EE S ((aJ.wA r).bl apC.1) 14e9 (.aP n (R.Rp apC.2 apx)) (aG.wA r (c.aE λa dr m2 apt u2 j apE r2 m=>?_));show fU m λW m=>?_;exact⟨jv ((BL r2).aU W),m.fJ j (apC.1.rv apE n)⟩
structure vL(C:aH):Prop where
 cd:∀P,∃cd,t8 (KL P) C=G cd/\cd.ys=true
 ga:∀P,iH (KL P) (.N C) "__getattribute__" =G (G (.bI "object.__getattribute__"))
 gx:∀P,iH (KL P) (.N C) "__getattr__" =G L
 sa:∀P,iH (KL P) (.N C) "__setattr__" =G (G (.bI "object.__setattr__"))
 aqb:∀P,Th (KL P) C=true
 kb:∀P n,kb C n=true->iH (KL P) (.N C) (nm n)=G L
def Ti:(af.ag 5e5 tk).pX 4e6=I.bX k n:=by
 refine(5e5==4e6)=_;cases q:I.bX k n with
 |true=>rw[42e6];exact vM _
 |false=>
  apply sd.bl;intro e;have:=r6 e;subst a9;rw[I.qI]at q;cases q
def afB:∀{d:0e1} {es:26e2},lu J h d es->match lk d n with
  |G v=>∃e,es.nv (·.cQ.pX (4e6))=G e/\RV J h v e.oR
  |L=>es.nv (·.cQ.pX (4e6))=L
 :=by
 intro d es apz;induction apz with
 |aQ=>rfl
 | @aP p e d es s a x=>
  rw[nP,D.find?_cons,s.1.jT,Ti];cases q:I.bX p.1 n with
  |true=>exact⟨e,H,s.2⟩
  |false=>exact x
def Tj:∀{d:0e1} {es:26e2},lu J h d es->es.fN (·.yt)=false
 :=by
 intro d es apz
 induction apz with
 |aQ=>rfl
 |aP s e x=>
  rw[D.any_cons,x];unfold iO.yt;rw[s.1.jT];rfl
def L2(r:lu J h d es):match lk d n with
  |G v=>∃u,L3 4e6 (hJ es m)=G (G u)/\22e2
  |L=>L3 4e6 (hJ es m)=G L:=by
 have z:=afB (n:=n) r;have app:=Tj r;unfold L3;refine match lk d n with
  |G v=>∃u,(match es.gF.f3.nv (·.cQ.pX (4e6))with
   |G e=>G (G e.oR)
   |L=>if es.gF.f3.fN (·.yt)then L else G L)=G (G u)/\22e2
  |L=>(match es.gF.f3.nv (·.cQ.pX (4e6))with
   |G e=>G (G e.oR)
   |L=>if es.gF.f3.fN (·.yt)then L else G L)=G L
 have el:es.gF.f3=es:=by simp
 rw[el];cases q:lk d n with
 |G v=>
  rw[q]at z;(show aM z λe s hr=>?_;try clear z);rw[s];exact⟨e.oR,H,hr⟩
 |L=>
  rw[q]at z;dsimp only at z⊢;rw[z,app];rfl
def Tl{x:Fx}{J:aV}{F:MS}{s:ae}(R:0e9){i:I}{p:9e4}{C:aH}{d:0e1}(a:J[i]? =5e1)(r:22e1 =G (112 d)):
  ∃e h es n,p.2=[h]/\L4 s.M p.1 e C (G (hJ es n))/\lu J s.M d es/\e.bv=G h/\s.M.ao h=G (hJ es n)/\d.U<=1000/\e.be= .th/\s.M.ao p.1=G e:=by
 obtain(⟨b,h,es,n,sl,k,g1,g2,g3⟩):=42 i r a;exact⟨_,h,es,n,k,⟨g1,H,H,g2⟩,g3,H,g2,b,H,g1⟩
def afC(r:22e2)(s:Qw v=true):handedIn u=true:=by
 cases r with
 |aa w=>cases w<;>first|rfl|exact nF s
 |_=>rfl
def Tm{x:Fx}{J:aV}{F:MS}{s:ae}{Q:0e5}{EE:0e5}{e:al}(R:0e9){i n:I}{p:9e4}{C:aH}{d:0e1}(apv:vL C)(w:J[i]? =5e1)(o:22e1 =G (112 d))(j:kb C n=true)
  (P:10 (Kk (lk d n) F)):97 (Cf 7e2 4e6 e):=by
 (show qf (Tl R w o) λS app es m apA apy r a=>?_;show lG a λhd apq t g=>?_;try clear a);have apw:=sr R.d7;show aM (apv.cd x.w.bU) λcd b c=>?_;have k:=apv.kb x.w.bU n j;have z:=L2 (m:=m) (n:=n) r;show eD P λv q P=>fU P λf P=>?_;rw[q]at z;(show aM z λu l h=>?_;try clear z);show get_value apw apy (apv.ga _) ?_ (afC h f) (P.jS R _ h);unfold Tn;rw[b,aq.yh,k,aq.yh];refine(W.L5 cd (G (hJ es m)) 4e6).cq _=_;unfold W.L5;rw[c,eX H];dsimp only;rw[l];rfl
universe e
section
open PySem PySem.W PyProof.Rows PySem.Calls PySem.Spec PySem.SeqAt
open Builtin hiding id
open Builtin.ObjectAttr Builtin.Getset_descriptor
set_option backward.match.sparseCases false
def afD{α:Type}(d:34e9)(n:I)(v:α):(fv d n v).U<=d.U+1:=by
 induction d with
 |aQ=>exact 11e7
 |aP p d s=>
  rw[BK];cases I.bX p.1 n with
  |true=>exact 37e9
  |false=>exact I.KY s
def pY(gf:am)(hs:K)(cQ v:af)(es:26e2):26e2:=match es.L6 (·.cQ.pX gf)with
  |G i=>es.modify i λe=>{e with oR:=v}
  |L=>es++[⟨hs,cQ,v⟩]
def afE:pY gf hs cQ v (e::es)=match e.cQ.pX gf with
  |true=>{e with oR:=v}::es
  |false=>e::pY gf hs cQ v es:=by
 unfold pY;rw[D.afF];cases q:e.cQ.pX gf with
 |true=>simp
 |false=>
  simp only[al.zH,zI];cases z:D.L6 (λx=>x.cQ.pX gf) es<;>simp
def afG(r:22e2)(apz:lu J h d es):lu J h (fv d n v) (pY 4e6 hs (140 tk) u es):=by
 induction apz with
 |aQ=>exact 265 ⟨25e1,r⟩
 | @aP p e d es s x a=>
  rw[afE,s.1.jT,Ti];rw[BK];cases q:I.bX p.1 n with
  |true=>exact .aP ⟨25e1,r⟩ x
  |false=>exact .aP s a
def To:∃m',az.yu gf hs cQ v (hJ es m)=hJ (pY gf hs cQ v es) m':=by
 rw[az.putName_eq];refine∃m',az.afH gf hs cQ v ⟨_,_,.bv es.gF m,_⟩=_;unfold az.afH pY;dsimp only;rw[D.findIdx?_toArray];cases z:D.L6 (λx=>x.cQ.pX gf) es with
 |L=>exact⟨m+1,by simp[hJ]⟩
 |G i=>exact⟨m,by simp[hJ]⟩
def afI{x:Fx}{s:ae}{A:df}{i C e:aH}{n:I}{tk:Tok}{es:26e2}{m:I}{u:af}{b:al}{cd:ClassData}{dd:uU}{sl}{Q:137 ky}{EE:0e5}(apw:dQ.In 36e5 s.M)
  (hx:s.M.ao i=G ⟨2e8,G e,dd,sl⟩) (L7:37e0=G (hJ es m)) (hc:t8 36e5 C=G cd) (hd:cd.ys=true) (hn:es.fN (·.yt)=false) (hl:es.U<=1000)
  (h:∀(hs:K) (m':I),Q (.kx (.bj .L)) {s with M:=s.M.eM e (az.yu 4e6 hs (140 s.a0) u),a0:=s.a0+1}):
  aX 3e0 A (afJ (.N i) 2e8 (140 tk) 4e6 u b) Q EE s:=by
 show bf (bW (167 (afK hx (bf ((looks_clsIn apw hc).eS ?_)))));rw[hd];show bW (a:=G e) (bf (bW 23e7));unfold nsSet;show 167 (acp (293 (Tp (bf (afK L7 ?_)))));have c:(!es.gF.fN (·.cQ.pX (4e6))&&es.gF.fN (·.yt))=false:=by
  rw[<-bO.any_toList,<-bO.any_toList];simp[hn]
 unfold hJ;dsimp only;rw[aRefKeyMayBeTheName_at,c];show wpAny_updatePart L7 ?_;show oE (To (gf:=4e6) (hs:=42e0) (cQ:= 140 s.a0) (v:=u) (es:=es) (m:=m)) λm' r=>?_;have p:(s.M.eM e (az.yu 4e6 42e0 (140 s.a0) u)).ao e=G (hJ (pY 4e6 42e0 (140 s.a0) u es) m'):=by
  rw[<-r];exact 258 L7 (by rw[r];rfl)
 have k:(pY 4e6 42e0 (140 s.a0) u es).U<=es.U+1:=by
  unfold pY;split<;>simp
 show bf (abS p (pastItsLine_dict (by rw[D.LE,f0];lia)) ?_);exact bW (h _ m')
def RU(_:aV)(_:ai)(_:ey)(_:ey):Prop:=ku
def afL{apv:dQ}{C:aH}{gf:am}(h:iH apv 2e8 gf=G L):takerIn apv C gf=G L:=by
 unfold takerIn;rw[h];rfl
def afM(k:0e1->aps)(C n:I)(d:0e1)(v:V)(i:I)(F:MS):26e1:=gB (I.g4 d.U 900&&kb C n) 59 (162 () i (k (fv d n v)))
def afN{x:Fx}{J:aV}{F:MS}{s:ae}{Q:17e3}{EE:0e5}(R:0e9){i n:I}{p:9e4}{C:aH}{d:0e1}{v:V}{u:af}(apv:vL C)(e:J[i]? =5e1)(g:22e1 =G (112 d))
  (r:15e7) (P:203 (afM (.bu C) C n d v i F)):97 (Tq 7e2 4e6 u):=by
 show fU P λw P=>?_
 ·show oA (al.mB.mp w) λhd w=>?_;have hd:=I.cy hd;obtain(⟨z,h,es,m,sl,l,g1,g2,g3⟩):=42 i g e;have apy:L4 s.M p.1 _ C (G (hJ es m)):=⟨g1,H,H,g2⟩;have apw:=sr R.d7;show aM (apv.cd x.w.bU) λcd t S=>?_;have app:=apv.kb x.w.bU n w;have apq:=g3.cR;show set_plain apw apy (apv.sa _) ?_;show osa_open (s:=42e1) apw apy (apv.aqb _) (afL app) λb=>?_;show afI (s:=42e1) apw g1 g2 t S (Tj g3) (by exact yp apq z) λhs m'=>?_;show oE (To (gf:=4e6) (hs:=hs) (cQ:= 140 (s.a0+1)) (v:=u) (es:=es) (m:=m)) λm' c=>?_;have apA:=R.m9 (o':= 112 (fv d n v)) (a:=h) e (by unfold dT;rw[l];simp) (ai.fy.eM ..) (λq o=>by rw[g2]at o;cases o;rfl) (h':=s.M.eM h (az.yu 4e6 hs (140 (s.a0+1)) u)) (λk=>?_) (s.a0+1+1)
  ·exact 266 dZ
  ·show⟨?_,h,pY 4e6 hs (140 (s.a0+1)) u es,m',sl,l,?_,?_,afG (dN k r) (xY k g3)⟩
   ·have:=afD d n v;lia
   ·have f:p.1≠h:=by
     have:=R.nd;have j:=(D.yg.mp a9).1 p (D.ja e);unfold dT at j;rw[l]at j;exact(D.L8.mp j).1 h (D.dP ..)
    exact((ai.fy.eM ..).2 _ f).aU g1
   ·rw[<-c];exact 258 g2 (by rw[c];rfl)
universe e
section
open PySem PySem.W PyProof.Rows PySem.Calls PySem.Spec PySem.SeqAt
open Builtin hiding id
set_option backward.match.sparseCases false
def afO{apB:iz}{A:df}{E:0e5}{s:ae}{f:af}{e:D (al×b4 af)}{Q:137 Args}(a:e.fN (·.1)=false)
  (h:107 (nb e) (λvs s'=>Q (61 vs) s') E s):29 (evalArgs f true e []):=by
 unfold evalArgs;match e,a with
 | [],_=>
  refine 29 (nb []>>=_);show aY (eW h (λvs s' h'=>180 (dg ?_)) λb b x=>x);exact 180 (180 (bG h'))
 |(false,x)::aC,_=>
  refine 29 (nb ((false,x)::aC)>>=_);show aY (eW h (λvs s' h'=>180 (dg ?_)) λb b x=>x);exact 180 (180 (bG h'))
 |(true,x)::aC,a=>cases a
def Cg(h:cI (kR ih d sc) Es es):(144 aT Es ab).fN (·.1)=false:=by
 induction h with
 |aQ=>rfl
 |aP a _ ih=>rw[na a.1];exact ih
def yv(apB:iz)(h:ai)(u:af):Prop:=∃k,(k=Tr.eb\/k=Tr.t9\/k=Tr.boundFrame)/\e6 apB h (keeperOf u) k
def uc{apB:iz}{A:df}{E:0e5}{s:ae}{aT:dz}{f:af}{u7:2e4}{a:D (al×b4 af)}{Q:0e5}(b:a.fN (·.1)=false)
  (h:107 (nb a) (λvs s1=>yv apB s1.M f/\107 (aW f (first++vs)) Q E s1) E s):29 (L9 aT f u7 a []):=by
 unfold L9;show 91 (afO b (eW h (λvs s1 h1=>25e5) λe e x=>x));obtain(⟨⟨k,m,apt⟩,h1⟩):=h1;have hs:(a.fN (·.1)||([]:D (aq am×b4 af)).fN (·.1.QA))=false:=by rw[b];rfl
 simp-fs only[hs];show fe (apt.eS λe=>?_);clear apt;have mj:∀{t:b4 af},107 t Q E s1->107 (t>>=λr=>gq [r] wz>>=λe=>b8 r) Q E s1:=
  λn=>aY (eW n (λr v hr=>eP (nA (OG (bG hr)))) λe e x=>x)
 have p (mk:af):107 (callMarked mk f (first++vs) []) Q E s1:=by unfold callMarked;exact XW h1
 rcases m with H|rfl|rfl<;>dsimp only<;>first|exact mj h1|(split<;>first|exact mj h1|exact mj (p _))
def Ts(v:af):Prop:=match v with
 | .bI _=>ku
 | .aA _=>ku
 | .N a=>∀P,Tt 8e0 2e2=true
 |_=>fR
def kT(F:MS)(v:V):Prop:=match v with
 | .aa v=>Ts v
 | .Z i=>∃k n,18e7=G (.cV k n)
 |_=>fR
def afP{x:Fx}{s:ae}{v:af}(apu:g9 s.M 36e5)(h:Ts v):yv 3e0 s.M v:=by
 cases v with
 |bI=>exact⟨.t9,15e6,.qW H⟩
 |aA=>exact⟨.t9,15e6,.qW H⟩
 |N a=>exact keeps_K (h x.w.bU) s.M (sr apu)
 |_=>exact h.ak
def yw{x:Fx}{J:aV}{F:MS}{s:ae}{f:V}{u:af}(R:0e9)(r:17 f u)(h:kT F f):yv 3e0 s.M u:=by
 cases f with
 |aa v=>cases r using tH.cD;exact afP R.d7 h
 |Z j=>
  obtain⟨k,n,e⟩:=h;cases r using mD.cD with
  |Z p a=>
   obtain(⟨fd,c1,c2,u1,u2,_,b,_⟩):=42 j e a;exact⟨.eb,2e6,(e6.ld (ve:=L) b).iX .oY⟩
 |_=>exact h.ak
section
variable{ih:Ih}{d:I}{sc:cC}{F:MS}
def Ch(h:cI (kR ih d sc) Es es){Q:0e5}{EE:0e5}{g:0e0->MS->3e2}(Y:3e6)(r:44e2)(R:0e9)
  (rf:17 f u) (P:10 ((kc ih es F).aE g))
  (hg:∀as aR aB s1 us,295 aR s1->70 aB s1.M->RV (J++aB) s1.M f u->cw (J++aB) s1.M as us->aG x (J++aB) s1 (g as aR) RV Q EE->yv 3e0 s1.M u/\283 (aW u (first++us)) s1):
  25 (L9 aT u u7 (144 aT Es x.ab) []):=by
 show uc (Cg h) (vH h F x J s _ EE Y r R (P.aE λas aR aB s1 us a e r1 b=>?_));exact hg as aR aB s1 us a e (R.rv e rf) r1.1 b
def qX(ih:Ih)(fz:al)(d:I)(x:Fx):Prop:=∀f as F (J:aV) (s:ae) (u:af) (us:2e4) (Q:0e5) (EE:0e5),3e6->0e9->17 f u->169 as->10 (xG ih fz f as F)->
  kT F f/\25 (aW u us)
def afQ(p:PX ih d sc apu aqc)(h:cI (kR ih d sc) Es es)(v:∀x:Fx,qX ih fz d x)
  (arm:∀ab,77 (.jR apu Es [] aT)=(do L9 aT (<-77 apu) [] (144 aT Es ab) (Ma aT (Mb [] ab)))):
  43 (.jR apu Es [] aT) ((75 aqc) λf F=>(kc ih es F).aE λas F=>xG ih fz f as F):=by
 intro x J s Q EE Y a R P;rw[arm];show iJ (p F x J s _ EE Y a R (P.aE λf aR u s1 u1 r i r1 b q=>?_));show Ch h Y a r r1 b λas dr m2 n us e j rf r2 m=>?_;obtain⟨k,w⟩:=v x f as dr _ n u1 us Q EE Y e rf r2 m;exact⟨yw e rf k,w⟩
universe e
universe e
section
open PySem PySem.W PyProof.Rows PySem.Spec PySem.SeqAt
open Builtin hiding id
set_option backward.match.sparseCases false
section
variable{bb:gR}{w:eA}{A:df}{E:af->ae->Prop}{s:ae}
def afR{a sl:aH}{v:af}{b m:4e9}{l u:af}{lo k:8e5}{R:137 ky}(g:A.j5=G [])(d:4e4=15e1)
  (hS:s.M.rE sl l u .L) (hl:la l lo) (hu:la u k)
  (hv:(∃tk,v= .iQ ⟨m⟩ tk/\m.U<=16777216)\/(∃c,v= .N c/\c≠a/\37e1=282 m)) (hz:106 (bV b lo k m).U)
  (h:∀s',s'.M.ao a=282 (bV b lo k m)->(∀c o,c≠a->37e1=0e4->s'.M.ao c=0e4)->s.M.O.an<=s'.M.O.an->s'.dC=s.dC->s'.os=s.os->R (.kx (.bj .L)) s'):
  133 A (Builtin.«bytearray.__setitem__» (61 [2e2,29e7,v])) R E s:=by
 show dU (id hS) λo P q hd=>?_;have wr:∀(p:ae),p.M.ao a=15e1->(∀c o,c≠a->37e1=0e4->p.M.ao c=0e4)->s.M.O.an<=p.M.O.an->p.dC=s.dC->p.os=s.os->
   272 w A (do dK.uT (2e2) λapp=>app.oW 0 (53e3).aI++(bO.mk m)++app.oW (423 53e3).aI app.an;bj .L) R E p:=by
  intro p h0 k0 j g0 i;have eq:((bO.mk b).oW 0 (53e3).aI++(bO.mk m)++(bO.mk b).oW (423 53e3).aI (188 b)).f3=bV b lo k m:=by
   exact bB bO.f3 (Sb b m lo k)
  show bf (w5 h0 ?_ λh' apq s'=>bW (h _ (by rw[<-eq];exact apq) (λc o q e=>?_) ?_ g0 i))
  ·rw[<-bO.J7,eq];exact hz
  ·exact(s'.2 c q).aU (k0 c o q e)
  ·rw[s'.1];exact j
 have t:∀(p:ae) (iL:af),272 w A (dK.w3 iL) (λx s'=>x=⟨m⟩/\s'=p) E p->p.M.ao a=15e1->(∀c o,c≠a->37e1=0e4->p.M.ao c=0e4)->s.M.O.an<=p.M.O.an->p.dC=s.dC->p.os=s.os->
   ∀apw:bO bd->K×K×K->b4 PySem.ky,133 A (do
    let jn<-dK.w3 iL
    let afS<-dK.w3 2e2
    let oZ<-sliceIndices (uR lo) (uR k) (uR L) afS.an
    if(oZ.2.snd==1)=true then do
     pd "bytearray.__setitem__.slice"
     if((jn.an:K)!=jo oZ.pZ oZ.2.pZ-oZ.pZ)=true then do
      dK.JK (2e2)
      dK.uT (2e2) λapp=>app.oW 0 oZ.pZ.aI++jn++app.oW (jo oZ.pZ oZ.2.pZ).aI app.an
      bj .L
     else do
      dK.uT (2e2) λapp=>app.oW 0 oZ.pZ.aI++jn++app.oW (jo oZ.pZ oZ.2.pZ).aI app.an
      bj .L
    else apw jn oZ) R E p:=by
  intro p iL V h0 k0 j g0 i apw;show 147 V (λx s' e=>?_) (λr r e=>e);(show oA e λS apA=>?_;subst S;subst apA);show fe (uS h0 λr=>?_);show fe (gt (Pt lo k L b.U (λe=>19e2)) λr=>?_);rw[afT];show thR cH ?_;show fe (ny λr=>?_);dsimp only;split
  ·show aY (Px g h0 (aL.of (wr _ h0 k0 j g0 i)))
  ·exact aL.of (wr _ h0 k0 j g0 i)
 unfold Builtin.«bytearray.__setitem__»;show me al.lK λr r=>?_;show fe (Pq hS λr=>?_);show fe (tf ⟨o,P,q⟩ λr=>me ap λr r=>?_);show fe (JI hS hl hu λr=>?_);rcases hv with⟨tk,H,hm⟩|⟨c,H,f,z⟩
 ·show me al.lK λr r=>?_;have n:=pn s ⟨m⟩ tk;show fe (ox n io.ab9 λr=>thR cH ?_);show eP ?_;show 167 (iP n io.PD 20e3);show 167 (iP n io.ab7 20e3);show cK (cK (iP n io.ab8 (λr=>bW λr=>?_)));show ox n io.aca ?_;show fe (gt (a:=L) H λr=>me al.lK λr r=>?_);show fe (ny λr=>?_);show aY (PK (b:=m) g (247 tk H hm) λh1 e1 k1 W=>?_);have f:a≠s.M.O.an:=285 d;show iJ (349 (JI (s:=47e9) ⟨o,k1 _ _ P,q,hd⟩ hl hu λr=>?_));exact t _ _ (uS (s:=47e9) e1 15e2) (k1 _ _ d) (λc o r e=>k1 c o e) (by refine _<=h1.O.an;exact I.le.nq (id (Eq.bh W))) H H _
 ·show uE (show¬(dK.sameRef _ _=true)from λe=>f (jv (α:=aH) e).bh) <|?_;show fe (ox (51 z) BA.jj λr=>me ap λr r=>?_);exact t _ _ (uS z 15e2) d (λc o r e=>e) 11e7 H H _
universe e
universe e
section
open PySem PySem.W PyProof.Rows PySem.Calls PySem.Spec PySem.SeqAt
open Builtin hiding id
set_option backward.match.sparseCases false
namespace BA
def afU:pW (.bI "bytearray.extend")=b8 (.aA "method_descriptor"):=by refine builtinType _=_;rw[builtinType_eq_fast];kernel_rfl
def afV:PlainAttrs "bytearray" :=
 ⟨⟨"bytearray.__getattribute__",by rw[kD,kF];kernel_rfl,by decide+cm⟩,by rw[kD,kF];kernel_rfl⟩
universe e BA
def afW:nm 46=("append" :am):=ar
def Tu:nm 94=("extend" :am):=ar
def afX:nm 50=("pop" :am):=ar
def afY:nm 75=("update" :am):=ar
def Mc{A:df}{E:0e5}{w:eA}{s:ae}{a:aH}{aO:16e5}(x:s.M.j8 a aO){n:I}{id:fS}{b:b4 al}{Q:af×2e4->ae->Prop}
  (slot:ov "list" 4e6 id) (hty:pW (.bI id)=b8 (.aA "method_descriptor")) (h:Q (.bI id,[2e2]) s):aX (bg pw w) A (Md 2e2 4e6 b) Q E s:=by
 (show oE x λm e=>?_;try clear x);exact Tv (51 e) PySem.apu.plainAttrs_list slot hty (λa r=>by cases r;exact(51 e)) h
def Tw{x:Fx}{A:df}{J:aV}{F:MS}{s:ae}{Q:af×2e4->ae->Prop}{EE:0e5}(R:0e9){i n:I}{p:9e4}{o:aps}{id:fS}{u:b4 al}(j:J[i]? =5e1)(w:22e1 =0e4)(b:rR o n=G id)
  (h:Q (.bI id,[7e2]) s):aX 3e0 A (Md 7e2 4e6 u) Q EE s:=by
 have z:=42 i w j;clear w;have ad:∀{aO:16e5},s.M.j8 p.1 aO->A1 n=G id->aX 3e0 A (Md 7e2 4e6 u) Q EE s:=by
  intro aO k b;show cS b (λq e=>?_) λr b=>cS b (λq e=>?_) λr b=>cS b (λq e=>?_) λr b=>nS b;all_goals cases I.fZ q;subst e
  ·exact Mc k (afW▸PySem.apu.slot_list_append) PySem.apu.type_list_append h
  ·exact Mc k (Tu▸PySem.apu.afZ) PySem.apu.type_list_extend h
  ·exact Mc k (afX▸PySem.apu.aeM) PySem.apu.type_list_pop h
 cases o with
 |ay=>(show gp z λr r r k r=>?_;try clear z);exact ad k b
 |au=>(show gp z λr r r k r=>?_;try clear z);exact ad k b
 |bv=>
  clear ad;show cS b (λq e=>?_) λr b=>nS b;cases I.fZ q;subst e;show gp z λr r o e z=>?_;have m:o.yn:=by rcases z with⟨_,⟨_,_,m,_⟩,_⟩|⟨_,⟨_,_,m,_⟩,_⟩<;>exact m
  exact Tv ⟨_,e,m.1⟩ PySem.apu.plainAttrs_dict (afY▸PySem.apu.af0) PySem.apu.type_dict_update (λa v=>by cases v;exact⟨_,e,m.2.1⟩) h
 |eF=>
  clear ad;show cS b (λq e=>?_) λr b=>nS b;cases I.fZ q;subst e;(show hT z λr r e=>?_;try clear z);exact Tv (apq:= "bytearray") (51 e) BA.afV (Tu▸BA.JH) BA.afU (λa v=>by cases v;exact(51 e)) h
 |_=>exact nS b
def bmK(k n:I):aq fS:=cB (I.g4 k 1) (A1 n) (141 k 2 (Qx n) (141 k 4 (Qy n) L))
def Tx(o:aps)(n:I):rR o n=bmK o.ce n:=by cases o<;>rfl
def af1(h:I.bX o.ce o'.ce=true):rR o n=rR o' n:=by rw[Tx,Tx,I.fZ h]
structure af2(C:aH):Prop where
 bk:∀P n f,xH C n=G f->iH (KL P) (.N C) (nm n)=G (G (.N f))/\yq (KL P) (.N f)=G (.aA "function")
def vN(e:PySem.aZ):al:=!xR e λf s s s=>m5 f λs s=>true
def yx(h:vN o=true):attributeBase o eY ab whole=whole:=by
 cases o with
 |jR f=>
  cases f with
  |dq=>exact nF h
  |_=>rfl
 |_=>rfl
def af3(h:cI (kR ih d sc) Es es):(144 aT Es ab).dI (!·.1)=true:=by
 induction h with
 |aQ=>rfl
 |aP s hs x=>
  rw[na s.1];refine(true&&(144 aT _ ab).dI (!·.1))=true;rw[x];rfl
def nV:Prop:=(∀C n,kb C n=true->vL C)/\∀C n f,xH C n=G f->vL C/\af2 C
def Ty(x:Fx):Prop:=∀i (p:9e4) o n id as F (J:aV) (s:ae) (us:2e4) (Q:0e5) (EE:0e5) (d:I),3e6->0e9->J[i]? =5e1->22e1 =0e4->rR o n=G id->169 as->10 (xB i o n as F)->
  25 (260 id (7e2::us))
section
variable{ih:Ih}{d:I}{sc:cC}{F:MS}
def af4{aps:PySem.aZ}{b:apw}{n:I}{aT:dz}(u:nV)(q:PX ih d sc aps b)(hs:vN aps=true):
  43 (.kM aps 4e6 aT) ((75 b) λo F=>gO o 114 λi=>gN 18e7 113 λob=>Qz ob n F):=by
 intro x J s Q EE Y v R P;rw[af5,yx hs];show aY (q F x J s _ EE Y v R (P.aE λo aR l s1 u1 m f r1 a=>?_));show 25e5;have mj:259 (Cf u1 4e6 true) Q EE s1->283 (do
   let r<-gq [u1] (Cf u1 4e6 true)
   afj aps u1 r
   b8 r) s1:=λh=>183 (hV h (λr c h2=>aL.of (bf (SD (bW h2)))) λw w e=>e)
 show mj ?_;show Lc r1 a λi p j a=>eD a λob e a=>?_;cases ob with
 |bu=>exact fU a λk a=>Tm m (u.1 _ _ k) j e k a
 |_=>exact a.ak
def af6(ob:Internal.aps):(∃C dd,ob= 112 dd)\/∀(ih:Ih) fz i n as F,Kl ih fz i ob n as F=gB (rR ob n).iq 119 ((kc ih as F).aE λas F=>gN 18e7 124 λh=>251 ob.ce h.ce 120 (xB i h n as F)):=by
 cases ob with
 |bu=>exact .a2 ⟨_,_,H⟩
 |_=>exact .aD λs s s s s s=>rfl
def af7{aps:PySem.aZ}{V:apw}{u:10e4}{es:23e6}{n:I}{su aT:dz}{fz:al}(apA:nV)(apx:PX ih d sc aps V)(hs:vN aps=true)(h:cI (kR ih d sc) u es)(hl:I.jN u.U 30=true)(apt:(su.Me==aT.iF)=true)(apE:∀x:Fx,qX ih fz d x)(hm:∀x:Fx,Ty x):
  43 (.jR (.kM aps 4e6 su) u [] aT) ((75 V) λo F=>gO o 125 λi=>gN 18e7 123 λob=>Kl ih fz i ob n es F):=by
 intro x J s Q EE Y g R P;rw[Tz,yx hs];show aY (apx F x J s _ EE Y g R (P.aE λo aR m1 s1 u1 v K1 r1 a=>?_));show 25e5;have Mf:Ci (u.U+([]:D TA).U) (144 aT u x.ab) (Ma aT (Mb [] x.ab))=true:=by
  unfold Ci;rw[af3 h];refine(true&&true&&bJ (u.U+0+0<30))=true;rw[al.Pk,al.Pk,BP];exact I.si.mp hl
 unfold TB;rw[Mf];have apq:∀{Q:137 dz} {s},Q aT s->25 (Cj true aps x.ab su aT):=by
  intro Q s h;unfold Cj;rw[apt];exact bG h
 have apw:=sr v.d7;show Lc r1 a λi p l a=>eD a λob e a=>?_;rcases af6 ob with⟨C,dd,H⟩|eq
 ·(show qf (Tl v l e) λaqQ dx apC m hpp apy r A=>?_;show lG A λhd hg hl' apu=>?_;try clear A);show kQ a (λt a=>?_) λt a=>eD a λf apD a=>fU a λE a=>?_
  ·have apv:=apA.1 _ _ t;show 183 (method_usual apw apy (apv.ga _) (apv.gx _) (apv.kb _ _ t) H (Tm v apv l e t (a.aE λf dr m2 s2 apr B K2 r2 aqd=>?_)));show aY (apq ?_);show Ch h Y g B r2 aqd λas j W c us b S rf r3 P3=>?_;show oA (apE x f as j _ c apr us Q EE Y b rf r3 P3) λk w=>?_;exact⟨yw b rf k,w⟩
  ·show oA (apA.2 _ _ _ apD) λapv apB=>?_;show oA (apB.bk x.w.bU n f apD) λapz ht=>?_;have z:=L2 (m:=m) (n:=n) r;rw[aq.isNone_iff_eq_none.mp E]at z;show 183 (method_fn apw apy (apv.ga _) (apv.gx _) apz ht (by refine(L3 4e6 (hJ apC m)).aj _=_;rw[z];rfl) ?_);show aY (apq ?_);show Ch (f:= 5 f) h Y g v 14e9 a λas j W c us b S rf r3 P3=>?_;show oA (apE x _ (15e9::as) j _ c _ (7e2::us) Q EE Y b rf (.aP (v.rv S (.Z i p l)) r3) P3) λk w=>?_;exact⟨yw b rf k,w⟩
 ·rw[eq]at a;show fU a λapp a=>?_;show oE (aq.mT.mp app) λid app=>?_;show iJ (349 (Tw v l e app λapu=>?_));show aY (apq ?_);show Ch (f:= 355 id) h Y g v 14e9 a λas j W c us b S rf r3 P3=>⟨yw b rf dZ,?_⟩;show eD P3 λapF e' P3=>fU P3 λhk P3=>?_;show aM ((v.eH S).Z i p l) λq aqe hqp=>?_;exact hqp▸hm x i q apF n id as j _ c us Q EE d Y b aqe e' (af1 hk▸app) r3 P3
universe e
def PB(ih:Ih)(d:I)(s:cC)(B:11e1)(b:15e5):Prop:=∀F,JB d s B F (ih 12e5 F)
def vO:PySem.aZ->al
 | .gV .. =>false
 | .SetComp .. =>false
 | .DictComp .. =>false
 |_=>true
def Cm(h:vO vI=true):TC vI t n ab=42e3:=by
 cases vI<;>first|rfl|cases h
def TD{x:Fx}{d:I}(Y:3e6):interactive x.ab=false:=by
 unfold interactive;rw[Y.fn];rfl
section
variable{ih:Ih}{d:I}{sc:cC}{F:MS}
def af8:JB d sc [] F 24e8:=λx J s Q EE Y h hz e R P=>273 .bz
def af9{S:ck}{B:11e1}{b:2e9}{rb:MS->2e9}(h:JS d sc S F b)(n:∀aR,JB d sc B aR (rb aR)):JB d sc (S::B) F (b.aE λr F=>rK r F (rb F)):=by
 intro x J s Q EE Y k hz a R P;show 51e6;show aY (h x J s _ EE Y k hz a R (P.aE λr aR v s1 u1 p w r1 e=>?_));cases r1 with
 |next=>exact n aR x _ s1 Q EE Y k hz a p e
 |bj m=>exact bG (e.fJ p (.bj m))
def aga{E:PySem.aZ}{e:3e2}{aT:dz}(h:43 E e)(b:vO E=true):JS d sc (.aZ E aT) F (e.aE λm F=> 24e8):=by
 intro x J s Q EE Y p hz k R P;rw[agb,TD Y,Cm b];show 44 29e2;show aY (h x J s _ EE Y p R (P.aE λv aR n s1 u1 r w r1 a=>?_));exact aL.of (agc (a.fJ r .bz))
def agd(h:43 E ra):JS d sc (.pM (G E) aT) F (ra.aE (395 (105 v))):=by
 intro x J s Q EE Y b hz r R P;show 23 (Mg ..);show 25e5;refine aL _ _ (do let v<-27e8;return iK.bj v) _ _ _;show aY (h x J s _ EE Y b R (P.aE λv aR p s1 u1 a k r1 e=>?_));exact bG (e.fJ a (.bj r1))
def age:JS d sc (.pM L aT) F (7 (105 0e6)):=by
 intro x J s Q EE Y h hz e R P;show 23 (Mg ..);exact 44 (273 (.bj 14e9))
def agf:JS d sc (.uG aT) F 24e8:=by
 intro x J s Q EE Y h hz e R P;show 23 (arm_exec_Pass ..);exact 44 (273 .bz)
def agg{apq:PySem.aZ}{B1 B2:11e1}{p:R al}{k rb:MS->2e9}{aT:dz}(h:JT d sc apq F p)(m:∀aR,JB d sc B1 aR (k aR))(n:∀aR,JB d sc B2 aR (rb aR)):
  JS d sc (.If apq B1 B2 aT) F (p.aE λc F=>cB c (k F) (rb F)):=by
 intro x J s Q EE Y e hz b R P;show 23 (arm_exec_If ..);show 44 (aY (h x J s _ EE Y e R (P.aE λc aR v s1 u1 r w r1 a=>?_)));cases r1;cases c
 ·exact n aR x _ s1 Q EE Y e hz b r a
 ·exact m aR x _ s1 Q EE Y e hz b r a
def JW(d:I)(h:cC)(apq:PySem.aZ)(B:11e1)(F:MS)(r:2e9):Prop:=
 ∀(x:Fx) (J:aV) (s:ae) (Q:34e8) (EE:0e5),3e6->x.ab.br=h->x.fz=false->pT 3e0 x.A x.ab EE->0e9->64 r RF->
  e7 3e0 x.A (.DM apq B [] x.ab) (367 f (zy 3e0 x.A x.ab EE e s')) s
def TE{apq:PySem.aZ}{B:11e1}{n:R al}{ra rw:MS->2e9}(h:JT d sc apq F n)(u:∀aR,JB d sc B aR (ra aR))(i:∀aR,JW d sc apq B aR (rw aR)):
  JW d sc apq B F (n.aE λq F=>cB q ((ra F).aE λr F=>rK r F (rw F)) 24e8):=by
 intro x J s Q EE Y b hz e R P;show zF ?_;show eW (h x J s _ EE Y b R (P.aE λc aR l s1 u1 m o r1 k=>?_)) 51e5 e;cases r1;cases c
 ·exact k.fJ m .bz
 ·show eW (u aR x _ s1 _ EE Y b hz e m (k.aE λr dr m2 j u2 p f r2 v=>?_)) 51e5 e;cases r2 with
  |next=>exact i dr x _ j Q EE Y b hz e p v
  |bj w=>exact v.fJ p (.bj w)
def TF{apq:PySem.aZ}{B:11e1}{r:2e9}{aT:dz}(h:JW d sc apq B F r):JS d sc (.Bm apq B [] aT) F r:=by
 intro x J s Q EE Y e hz a R P;show 23 (arm_exec_While ..);show 44 55e8;rw[wy];exact h x J s Q EE Y e hz a R P
universe e
def Mh{α β:Type}{l:D (α×β)}:(l.aj (·.2)).dS->∀{n m:α} {c:β},(n,c)∈l->(m,c)∈l->n=m:=by
 induction l with
 |aQ=>exact λx x x x h=>nomatch h
 |aP p l a=>
  intro nd n m c h1 h2;show oA (D.jd.mp nd) λs e=>?_;rcases D.eR.mp h1 with e1|h1<;>rcases D.eR.mp h2 with e2|h2
  ·rw[<-e1]at e2;exact(kC.mk.cE e2).1.bh
  ·rw[<-e1]at s;exact bL (D.ow (f:=(·.2)) h2) s
  ·rw[<-e2]at s;exact bL (D.ow (f:=(·.2)) h1) s
  ·exact a e h1 h2
section
variable{x:Fx}{J:aV}{F:MS}{s:ae}{h':ai}
def aJ.Mi(R:0e9)(r:fr x a)(hs:166 a h')(hd:FA x a->∃o es n,18e4=0e4/\o.be= .bv es n)(apA:∃o,18e4=0e4)
  (hc:x.fz=false->∀n c,(n,c)∈x.ab.b2->∃w,h'.pO c w) (apC:f8 J J s.M h'->Bw x J h' T) (k:I):241 (219 T) k/\32e5:=by
 have no:¬14e2:=R.bH a r;have h:∀b q,b≠a->8e8=G q->11e8=G q:=λb q n e=>(hs.2 b n).aU e;have tk:jr s.M h':=λb q e t=>h b q (λz=>by subst z;rw[(R.tP r e).2.2]at t;cases t) e;have bR:f8 J J s.M h':=by
  show⟨λb aO e=>?_,λb aO e d=>?_,λb apD n e d=>?_,λm p e=>⟨p,e,H⟩,λm m=>jr.dG tk⟩
  ·show gD e λo e c n dd=>?_;exact⟨o,391 o ((R.tP r e).1 _ _ dd) e,c,n,dd⟩
  ·show gD e λo e c n dd=>?_;exact⟨⟨o,391 o ((R.tP r e).1 _ _ dd) e,c,n,dd⟩,d⟩
  ·exact⟨391 _ ((R.tP r e).2.1 _ _ H) e,d⟩
 show⟨⟨λq u=>h _ _ (λz=>?_) (R.d7 q u),R.cR,λj o q e1 e2=>?_,R.nd,R.gy,λb v=>by have:=R.up b v;rw[<-hs.1]at a9;exact a9,apC bR,R.bH,R.hK,R.b2,hc,λl S e P=>?_,R.fx,R.dC,R.os,tk.Y R.cV⟩,?_⟩
 ·have h1:=D.ib.mp (BW x.w.bU) q u;clear hs;have h2:=R.hK a r;rw[<-z]at h2;exact 31 (I.si.mp h1) h2
 ·exact se bR (λb v W e=>297 b W (no ⟨q,D.ja e2,v⟩) e) (R.O j o q e1 e2)
 ·obtain(⟨g,apt,o,f1,f2,es,n,apw⟩):=R.gz l S e P;clear no;by_cases hL:apt=a
  ·subst hL;show ol (hd ⟨l,S,e,P,f1⟩) λo' apq V g1 g2=>?_;clear hd;exact⟨g,apt,o',f1,g1,apq,V,g2⟩
  ·exact⟨g,apt,o,f1,h apt o hL f2,es,n,apw⟩
 ·show⟨λb q e m m i m=>297 b q (i r) e,λb q e f i=>⟨q,297 b q (i r) e,H,H⟩,λb q e t m=>tk b q e t,λb q e=>?_,(by intro b app;(show aM app λq u m=>?_;try clear app);exact nomatch u)⟩
  ·by_cases v:b=a
   ·subst v;exact apA
   ·exact⟨q,h b q v e⟩
def sv{α:Type}(d:34e9)(n k:I)(v:α):19 (fv d n v)=if k=n then 2e5 else 19 d:=by
 induction d with
 |aQ=>
  refine(match I.bX n k with|true=>2e5|false=>L)=_;cases q:I.bX n k with
  |true=>rw[eX (42e6).bh]
  |false=>rw[d5 (λe=>by subst e;rw[I.qI]at q;cases q)];rfl
 |aP p d s=>
  rw[BK];cases q:I.bX p.1 n with
  |true=>
   have e:=42e6;refine 19 ((p.1,_)::d)=_;rw[nP,nP p];cases z:I.bX p.1 k with
   |true=>rw[eX ((I.fZ z).bh.aU e)];rfl
   |false=>rw[d5 (λf=>by rw[f,<-e,I.qI]at z;cases z)];rfl
  |false=>
   refine 19 (p::fv d n v)=_;rw[nP,nP];cases z:I.bX p.1 k with
   |true=>
    have e:=I.fZ z;clear z;rw[d5 (λf=>by rw[e,f,I.qI]at q;cases q)];rfl
   |false=>exact s
variable{Q:ey->ae->Prop}{EE:af->ae->Prop}
def Mj{d k:I}{id:am}{v:V}{u:af}(Y:3e6)(hz:39e2=18e8->x.fz=false)(R:0e9)(r:15e7)(E:id=5e5)(p:39e2=12e3\/39e2=18e8)
  (h:∀h' t,241 (F.fv k v) t->32e5->156 () t):97 (Mk x.ab id u):=by
 subst E;show wpAny_bindName ?_;obtain⟨m,apE,hm⟩:=R.bp.iN;rcases p with p|p
 ·have C:(x.ab.br.d8== .class||(x.ab.br.d8== .TG&&x.ab.cX !=x.ab.g8))=false:=by rw[Y.fn];rfl
  show agh p apE (λh' app hs=>?_) C;have apA:=R.Mi (T:=fv F.T k v) (h':=h') 2e6 hs (λW=>by(show uB app λo es ep e d W=>?_;try clear app);exact⟨o,es,ep,e,d⟩) (by(show ol app λo es ep e W=>?_;try clear app);exact⟨o,e⟩)
   (λz n c f=>by
    show gd (R.hj z n c f) λw o e d=>?_
    exact⟨w,o,(hs.2 c (λq=>by subst q;exact R.b2.2.2 n f)).aU e,d⟩)
   (λbR=>⟨⟨_,app,λj l a b=>?_⟩,λj l a b=>?_⟩) (s.a0+1)
  ·exact h h' _ apA.1 apA.2
  ·rw[sv]at b;split at b
   ·rename_i e;subst e;cases b;exact⟨u,eX H,30e5⟩
   ·rename_i e;show aM (hm j l a b) λi e1 r1=>?_;exact⟨i,by rw[d5 (λq=>e (r6 q))];exact e1,35e2⟩
  ·rw[sv]at b;split at b
   ·rename_i e;subst e;rw[p]at a;rcases a with a|a<;>cases a
   ·obtain(⟨c,i,e1,⟨o,e2,apD⟩,r1,no⟩):=200 j l b;show⟨c,i,e1,⟨o,(hs.2 c λq=>?_).aU e2,apD⟩,35e2,no⟩;subst q;exact R.b2.2.2 _ (nc e1)
 ·show oE (aq.mT.mp (Y.vx _ (.a2 p))) λc f=>?_;have P:=nc f;have apw:=hz p;clear hz;show oE (R.hj apw _ _ P) λw apq=>?_;show wpAny_storeName_cell Y.fn p f apq λh' S hs=>?_;have A:x.ab.cX≠c:=λq=>by subst q;exact R.b2.2.2 _ P
  have apu:∀n,(n,c)∈x.ab.b2->n=5e5:=by
   intro n app;have nd:=R.b2.1;exact(Mh nd app P)
  have apA:=R.Mi (T:=fv F.T k v) (h':=h') (354 apw P) hs (λB=>by
    (show aM apq λo e d=>?_;try clear apq)
    exact bL B (R.lv e λes n q=>by rw[d]at q;cases q)) (by(show aM S λo e W=>?_;try clear S);exact⟨o,e⟩)
   (λz n g apr=>by
    clear apq
    by_cases q:g=c
    ·subst q;exact⟨_,S⟩
    ·show gd (R.hj z n g apr) λw o e d=>?_
     exact⟨w,o,(hs.2 g q).aU e,d⟩)
   (λbR=>⟨⟨m,apE.sameBut hs A,λj l a b=>?_⟩,λj l a b=>?_⟩) s.a0
  ·exact h h' _ apA.1 apA.2
  ·rw[sv]at b;clear A h;split at b
   ·rename_i e;subst e;rw[p]at a;cases a
   ·show aM (hm j l a b) λi e1 r1=>?_;clear p;exact⟨i,e1,35e2⟩
  ·rw[sv]at b;split at b
   ·rename_i e;subst e;cases b;exact⟨c,u,f,S,30e5,R.bH c (354 apw P)⟩
   ·rename_i e;clear S f P;obtain(⟨g,i,e1,⟨o,e2,apD⟩,r1,no⟩):=200 j l b;clear b;show⟨g,i,e1,⟨o,(hs.2 g λq=>?_).aU e2,apD⟩,35e2,no⟩;clear e2 hs no;subst q;exact e (r6 (apu _ (nc e1)))
universe e
def Ml{h:ai}{a:aH}{aO:16e5}(x:h.j8 a aO)(f:16e5->16e5):(h.eM a (az.pv f)).j8 a (f aO):=by
 (show oE x λn e=>?_;try clear x);have:∃s,az.pv f (327 aO n)=(327 (f aO) s):=by
  unfold az.pv;exact 25e1
 (show oE a9 λs hm=>?_;try clear a9);exact⟨s,by rw[258 e (by rw[hm];rfl),hm]⟩
section
variable{α:Type}[qN α]
def agi{bK:D (α×af)}{v:af}(a:(q::bK).aj (·.1) |>.dS):yz (q::bK) k v=if q.1=k then(q.1,v)::bK else q::yz bK k v:=by
 unfold yz;by_cases e:q.1=k
 ·have x:∀p∈bK,p.1≠k:=λp s z=>(D.jd.mp a).1 (by refine q.1∈_;rw[e,<-z];exact D.ow s);rw[eX e,eX (D.p7.bl ⟨q,D.dP ..,eE e⟩),D.nW,eX e,(D.yA λp s=>d5 (x p s):bK.aj (λh=>if h.1=k then(h.1,v)else h)=bK.aj id),D.map_id]
 ·rw[d5 e,D.any_cons,D.nW,d5 e,fX e,al.false_or];split<;>rfl
def TH(p:V×V)(l:5e6)(k v:V):iS (p::l) k v=cB (mZ p.1 k) ((p.1,v)::l) (p::iS l k v):=ar
def TJ{f:α->V->Prop}(i:∀{a b k w},f a k->f b w->mZ k w=bJ (a=b)){k v:V}{u:af}(n:f a k)(r:22e2){l:5e6}{bK:D (α×af)}(x:RK f J h l bK):(bK.aj (·.1)).dS->RK f J h (iS l k v) (yz bK a u):=by
 induction x with
 |aQ=>exact λj=> 265 ⟨n,r⟩
 | @aP p q l bK s x ih=>
  intro m;rw[agi m];rw[TH,i s.1 n];by_cases e:q.1=a
  ·rw[eE e,eX e];exact .aP ⟨s.1,r⟩ x
  ·rw[fX e,d5 e];exact .aP s (ih (D.jd.mp m).2)
universe e
def TK(k v:V)(l:5e6):(iS l k v).U<=l.U+1:=by
 induction l with
 |aQ=>exact 11e7
 |aP p l s=>
  rw[TH];cases mZ p.1 k with
  |true=>exact 37e9
  |false=>exact I.KY s
section
variable{x:Fx}{J:aV}{F:MS}{s:ae}{Q:ey->ae->Prop}{EE:af->ae->Prop}
def TL{h:ai}{a:aH}{o:az}(e:14e4=0e4)(x:o.yn)(hd:∃es ep,o.be= .bv es ep):∀q,14e4=G q->iu q=false:=by
 intro q s;rw[e]at s;cases s;show qe hd λes ep hd=>?_;exact tK hd
def agj{k:I}{p:9e4}{l:5e6}{i v:V}{c u:af}{Q:17e3}(R:0e9)(apw:F.dL k=G (.bv l))(g:J[k]? =5e1)(m:nI l i=true)(apE:l.U<=900)(ri:17 i c)(r:15e7)
  (h:∀{h' t},241 (F.cM k (.bv (iS l i v))) t->32e5->156 () t):97 (sw 7e2 c u):=by
 show gp (42 k apw g) λq A app e z=>?_;have n:app.yn/\∃es ep,app.be= .bv es ep:=by rcases z with⟨_,⟨es,ep,n,hd,_⟩,_⟩|⟨_,⟨es,ep,n,hd,_⟩,_⟩<;>exact⟨n,es,ep,hd⟩
 have iV:=TL e n.1 n.2;clear n;have apr:nD x J s.M 7e2 l:=by
  show⟨p.1,H,?_,z.f5 (.f5 λW w=>⟨377 app e w.1,w.2⟩) (.f5 λW w=>⟨377 app e w.1,w.2⟩)⟩;have h1:=R.gy p.1 ⟨p,D.ja g,D.dP ..⟩;show sd.bl λq=>?_;rw[q]at h1;exact bL h1 ap
 clear z e;have go:∀{apv:Type} [qN apv] {gY:x6 pw x.w apv} {f:38e8} (apq:∀{a b k S},f a k->f b S->mZ k S=bJ (a=b)) {a:apv} {bK:31e8} (m:f a i) (P:gY.is a c=true),s.M.qO gY p.1 bK->RK f J s.M l bK->
   (∀{h'} {o:az},(∃bK,o.qK gY bK/\RK f J h' (iS l i v) bK)->DK x.w J h' o (iS l i v))->97 (sw 7e2 c u):=by
  intro apv _ gY f apq a bK m P d j fV;have B:=TK i v l;show wpAny_setItem_pairs P d (λh' apD hs=>?_) (by rw[f0,j.cR];lia);have apA:=338 (.bv (iS l i v)) g hs iV ⟨q,bM,(ai.lX.mp apD).f5 λo' w=>⟨w.1,fV ⟨_,w.2,TJ apq m (dN k r) (tN k j) (Rw d)⟩⟩⟩ (s.a0+1);exact h apA.1 apA.2
 clear h;induction ri using RV.cD with
 |y=>
  show jA (x7 apr m) λa bK e1 n1 d j=>?_;cases e1;exact go BH 25e1 (eE H) d j .a2
 |ag=>
  show jA (BJ apr m) λa bK e1 n1 d j=>?_;clear n1;cases e1;exact go BI H (eE H) d j .aD
 |_=>exact nF m
def agk{o i v:V}{w b u:af}(R:0e9)(f:17 o w)(ri:17 i b)(r:15e7)(P:203 (Ki F o i v)):
  97 (sw w b u):=by
 induction f using RV.cD with
 |Z k p h=>
  show eD P λob d P=>?_;cases ob with
  |ay l t=>
   show m7 ri P λj t' tk P=>?_;show oA (tW P) λa P=>?_;have a:=fo a;(show gp (42 k d h) λq g aO c m=>?_;(show oE c λn e=>?_;try clear c));have W:=iw m;show ki_setAt e a.1 bM (by refine j<((aO.U:I):K);lia) ?_;have apA:=R.m9 (o':= .ay (l.cM j.aI v) (t'||t)) h (D.dP ..) (ai.fy.eM ..) (tX (⟨_,e,H,n,H⟩:151 p.1 aO)) (h':=s.M.eM p.1 (az.pv (·.pV j.aI u))) (λk=>⟨q,by rw[D.vK];exact g,aO.cM j.aI u,by simpa using Ml ⟨n,e⟩ (·.pV j.aI u),.cM (dN k r) (hM k m) _⟩) s.a0;exact 266 dZ
  |bv l=>exact fU P λapp P=>fU P λz P=>agj R d h app (I.cy z) ri r λS apq=>P.bj S apq dZ
  |_=>exact P.ak
 |_=>exact P.ak
universe e
def yB{α:Type}(r:3e3):r.ch []=r:=by cases r<;>rfl
def qY{α β:Type}(a:α)(F:MS)(f:α->MS->R β):(R.Y a F).aE f=f a F:=yB _
def sx(J:aV)(h:ai):9e6->af->Prop
 |L,u=>u= .L
 |G v,u=>22e2
def Mm(k:f8 J xX h h'):∀{o:9e6} {u:af},sx J h o u->sx xX h' o u
 |L,_,e=>e
 |G _,_,r=>dN k r
def Cn(J:aV)(h:ai)(p:9e6×9e6)(u:af):Prop:=∃sl x s,u= 29e7/\h.rE sl x s .L/\sx J h p.1 x/\sx J h p.2 s
inductive PO (ih:Ih) (d:I) (sc:cC):aq PySem.aZ->aq apw->Prop
 |L:PO ih d sc L L
 |G {E e}:PX ih d sc E e->PO ih d sc (G E) (G e)
def vP(ih:Ih)(lo s:aq apw)(F:MS):R (9e6×9e6):=(lT ih lo F).aE λlo F=>(lT ih s F).aE λs F=> 7 (lo,s)
section
variable{ih:Ih}{d:I}{sc:cC}
def TM(h:PO ih d sc E e)(F:MS)(x:Fx)(J:aV)(s:ae)(Q:0e5)(EE:0e5)(Y:3e6)(r:44e2)(R:0e9)(P:64 (lT ih e F) sx):
  25 (valueOrNone (evalOpt E x.ab)):=by
 cases h with
 |L=>exact 273 H
 |G h=>exact h F x J s Q EE Y r R (P.aE λv aR p s1 u1 b k r1 a=>a.fJ b r1)
def TN{apt apA:41e8}{lo e:aq apw}(n:PO ih d sc apt lo)(w:PO ih d sc apA e)(F:MS)(x:Fx)(J:aV)(s:ae)(Q:0e5)(EE:0e5)(Y:3e6)(r:44e2)(R:0e9)(P:64 (vP ih lo e F) Cn):
  25 (233 (.r0 apt apA L aT)):=by
 show 23 (arm_eval_Slice ..);show aY (TM n F x J s _ EE Y r R (P.aE λv aR q s1 u1 a j r1 m=>?_));show 91 (TM w aR x _ s1 _ EE Y r a (m.aE λv2 dr m2 b u2 p i r2 u=>?_));show 91 32e8;have E:=p.ext (jW (329 "slice" #[u1,u2,.L])) (vE _) b.a0;have k:=jc (J:=J++q++m2) (jW (329 "slice" #[u1,u2,.L])) (h:=b.M);show aL.of (qr ?_);exact u.bj E.1 E.2 ⟨_,u1,u2,H,.jn ..,Mm k (Mm (a.eH i) r1),Mm k r2⟩
universe e
def TP(r:sx J h o u)(e:ve o=G (i,t)):la u i:=by
 cases o with
 |L=>cases e;have:u= .L:=r;rw[a9];exact .L
 |G v=>cases v with
  |y i t=>cases e;have:145 (.y _ _):=r;cases a9;exact .y ..
  |_=>exact 18e0
set_option tactic.hygienic true in
theorem ud{lo p:9e6}{s r:af}{x app:8e5}{t:al}(rl:sx J h lo s)(k:sx J h p r)(e:AV lo p=G (x,app,t)):la s x/\la r app:=by
 unfold AV at e;split at e
 ·rename_i a t' e1;split at e
  ·rename_i b m e2;cases e;exact⟨TP rl e1,TP k e2⟩
  ·cases e
 ·cases e
section
variable{x:Fx}{J:aV}{F:MS}{s:ae}{Q:af->ae->Prop}{EE:af->ae->Prop}
def ue{α δ:Type}{bq:199 α δ}{Q:38e3}{C:Prop}{lo e:9e6}{w:I}{f:8e5->8e5->al->3e3}(P:11 (gS lo e w f))(g:∀a b t,AV lo e=G (a,b,t)->11 (f a b t)->C):C:=eD P λp h P=>g p.1 p.2.1 p.2.2 h P
def agl{β:Type}{C:38e5}{l:2e1}{d:β}{f:4e9->2e1->β}(hd:C d)(s:∀app o,C (f app o)):C (Kd l d f):=yf hd λq o=>by
 cases q with
 | «by» app=>exact s app o
 |_=>exact hd
def agm{fz:al}{a:V}{p:9e6×9e6}{apA up:af}(R:0e9)(apD:17 a apA)(apq:Cn J s.M p up)(P:10 (tA fz a p.1 p.2 F)):
  97 (ph apA up):=by
 (show kX apq λsl apr A W j r1 r2=>?_;try clear apq;subst W);induction apD using RV.cD with
 |cg b tk n=>exact ue P λlo k t e P=>(ud r1 r2 e).ak λp1 m=>aeF R n j p1 m P
 |ad l t a aO v B n w=>
  have P:10 (gS p.1 p.2 30 λx app u=>222 (176 l) (t||u)):=P;show ue P λlo k t e P=>?_;exact(ud r1 r2 e).ak λp1 m=>Lu R v w n j p1 m P
 |Z i q g=>
  show eD P λob f P=>?_;cases ob with
  |ay l t=>
   show gp (R.O _ _ q f g) λc n aO v w=>?_;have P:10 (gS p.1 p.2 31 λx app u=>222 (176 l) (t||u)):=P;show ue P λlo k t e P=>?_;exact(ud r1 r2 e).ak λp1 m=>Lu R v.iG w n j p1 m P
  |au l=>
   show gp (R.O _ _ q f g) λc n aO v w=>?_;have P:10 (gS p.1 p.2 32 λx app c=>cB fz (7 (6 (176 l.er))) (F.jn (.au (176 l.er).er))):=P;show ue P λlo k t e P=>(ud r1 r2 e).ak λp1 m=>?_;have apE:=iw w;have S:=Ls l.er lo k;rw[D.lx]at apE S;cases fz with
   |true=>
    show Lu (fz:=true) (t:=true) R v.iG w (409 n) j p1 m ?_;show⟨λp d=>?_,P.2⟩;have d:p∈ (288 (bD l.er lo k).U)++[]:=d;rw[D.dY,D.cY]at d;rw[d];exact I.dV S n
   |false=>
    show aeE v.iG j p1 m .L (by simp) ?_ (364 aO.U);rw[Sc];have apw:=Sf lo k w;exact R.BR (jW _) (Lk _) P s.a0 λbR=>⟨H,by rw[D.lx];lia,bD aO lo k,⟨_,10e0⟩,by rw[D.Sn];exact hM bR apw⟩
  |eF b=>
   show hT (R.O _ _ q f g) λc n v=>?_;have P:10 (gS p.1 p.2 33 λx app c=>Kd F.bE (7 (.eh (176 b))) λz o=> 20 (.eh z) F.O F.T o [176 b=z]):=P;show ue P λlo k t e P=>(ud r1 r2 e).ak λp1 m=>?_;have S:=Ls b lo k;show abO v j p1 m (by rw[BV];refine(bD b lo k).U<=_;lia) ?_;rw[BV];have E:=R.ext (jW (fi (bD b lo k))) (vE _) s.a0;have no:¬cx J s.M.O.an:=λh=>294 (R.up _ h);have cQ:RV J (s.M.b5 (fi (bD b lo k))) (.eh (bD b lo k)) 9e9:= .eh _ _ 10e0 no bM;revert P;show agl (C:=λr=>10 r->_) (λP=>P.bj E.1 E.2 cQ) λz o P=>?_;exact P.2 [] _ _ (by rw[D.dY];exact E.1.bE o) E.2 (by rw[D.dY,<-(oT P.1:bD b lo k=z)];exact cQ)
  |_=>exact P.ak
 |_=>exact P.ak
def agn{fz:al}{a:V}{lo h:9e6}(P:10 (tA fz a lo h F)):LF F a:=by
 cases a with
 |cg=>trivial
 |ad=>trivial
 |Z o=>exact eD P λob e P=>57e1
 |_=>exact P.ak
universe e
section
variable{ih:Ih}{d:I}{sc:cC}{F:MS}
def ago{A:PySem.aZ}{e:apw}{apt apA:41e8}{lo h:aq apw}{r aT:dz}{fz:al}(m:PX ih d sc A e)(b:PO ih d sc apt lo)(v:PO ih d sc apA h):
  43 (.qG A (.r0 apt apA L r) aT) (13e9 λo F=>(lT ih lo F).aE λlo F=>(lT ih h F).aE λh F=>tA fz o lo h F):=by
 have cQ:=SE (aT:=aT) (bq:=Cn) (ri:=vP ih lo h) (f:=λa p F=>tA fz a p.1 p.2 F) (m F) (apy:= .r0 apt apA L r) (λaR x J s Q EE Y w R P=>TN b v aR x J s Q EE Y w R P)
  (λaR x J s Q EE a i u q Y R k ri P=>by
   show gd (SF R k (agn P)) λapq id n b=>?_
   exact SB n b (agm R k ri P))
 have eq:(13e9 λa F=>(vP ih lo h F).aE λp F=>tA fz a p.1 p.2 F)=13e9 λo F=>(lT ih lo F).aE λlo F=>(lT ih h F).aE λh F=>tA fz o lo h F:=by
  congr 1;funext a F;unfold vP;rw[yk];congr 1;funext lo F;rw[yk];congr 1;funext h F;exact qY ..
 rw[<-eq];exact cQ
def agp{Q:0e5}{EE:0e5}(P:10 (xy a i F)):LF F a:=by
 cases a with
 |X=>trivial
 |ad=>trivial
 |Z o=>exact eD P λob e P=>57e1
 |aa v=>exact eD P λl h b=>bB aq.iq h
 |_=>exact P.ak
def agq{A apy:PySem.aZ}{b h:apw}{aT:dz}(k:PX ih d sc A b)(r:PX ih d sc apy h):
  43 (.qG A apy aT) ((75 b) λo F=>(75 h) λi F=>xy o i F):=
 SE (aT:=aT) (bq:=RV) (ri:=ci ih h) (f:=λa i F=>xy a i F) (k F) (λaR x J s Q EE Y n R P=>r aR x J s Q EE Y n R P)
  (λaR x J s Q EE a i w v Y R e ri P=>by
   show gd (SF R e (agp P)) λapq id p m=>?_
   exact SB p m (aet R e ri P))
universe e
def agr{bb:gR}{w:eA}{A:df}{E:0e5}{s:ae}{o i v:af}{apq id:fS}{b:Builtin}{Q:17e3}(x:s.kH o apq)(r:seqItemTypes.hU apq=false)(S:ov apq "__setitem__" id)(k:mV lJ id=G b)(hd:dK.wv.hU id=false)(p:kG id (61 [o,i,v]))
  (h:133 A.fg (b (61 [o,i,v])) (λf s'=>match f with| .kx (.bj _)=>Q () s'|_=>fR) E s):133 A (sw o i v) Q E s:=by
 unfold sw;show dg (eP (ags x r ?_));show 27e5;unfold Aw;show fe (iP x S.bY λe=>?_);simp only[S.cq];show dg (180 (aY (rh (JM S.th hd k (S.check _ _ _ _ _ _ _ _ x p ?_)))));show eW h (λf s' a=>?_) λe e z=>z;rcases f with(v|_|_|_)|c
 all_goals first|exact bG (bG a)|exact a.ak
def Mn{α:Type}(l m:8e4)(lo s:8e5):(bV l lo s m).U<=l.U+m.U:=by
 unfold bV;rw[D.hN,D.hN,D.qP,D.sf,I.TQ];exact I.TR (I.dV (I.agt (I.sub_le_sub_left (I.dV (I.KZ ..) (I.le_max_left ..)) _) _) (I.hZ (I.agu (I.Sd ..)))) _
section
variable{bb:gR}{w:eA}{A:df}{E:af->ae->Prop}{s:ae}
def agv{a sl b:aH}{us r:2e4}{l q:af}{lo p:8e5}{Q:17e3}(o:s.M.j8 a 29e5)(hs:s.M.rE sl l q .L)(P:la l lo)(t:la q p)(v:151 b r)(app:b≠a)(hz:us.U+r.U<=16777216)
  (h:∀h',h'.j8 a ⟨bV us lo p r⟩->166 a h'->157 ()):41 (sw 2e2 29e7 (.N b)):=by
 have g:=o;(show oE o λn u=>?_;try clear o);show gD (id v) λob d apA apq f=>?_;have i:s.kH 2e2 "list" :=(51 u);show dU (id hs) λos m R j=>?_;have c:s.kH 29e7 "slice" :=⟨os,m,R⟩;unfold sw;show nA (bf (ags i ap ?_));show bf (w8 (gf:=am.pg "__setitem__") i PySem.apu.agw
  (nw PySem.apu.agw i PySem.apu.entry_list_setitem ?_ (PySem.apu.args_list_setitem_3 _ _ _)))
 refine aX _ _ (Builtin.D.agx 29e7>>=_) _ _ s;show 23e7;unfold Builtin.D.agx;show cK (iP c abM λk=>?_);show bW (a:=L) ?_;refine aX _ _ (pW 29e7>>=_) _ _ s;show cK (tf c λk=>?_);show 35e4 <|?_;refine aX _ _ (Builtin.D.listSliceParts 29e7>>=_) _ _ s;rw[listSliceParts_eq];show 167 (hG m j (x:= .L) H (bf (TS .L ?_)));rw[d5 (413 ((uR L==iC 0)=true))];show bf (hG m j (x:=l) H (bf (TS P ?_)));show bf (hG m j (x:=q) H (bf (TS t 20e3)));have z:¬(Builtin.D.P6 2e2 (.N b)=true):=by
  refine¬((a==b)=true);rw[AA];exact λe=>app e.bh
 show kY z <|?_;show 23e7;unfold Builtin.D.listAllItems;show cK (tf v.mX λk=>?_);show pa ap <|?_;unfold Builtin.D.Qa;show bf (AI d f 20e3);show cK (bf (AI u H (bW λk=>?_)));show cK (gt (Pt lo p L us.U (λe=>19e2)) λk=>?_);have v:sliceBounds lo p L us.U=(50e5,((p.ak us.U (kL us.U):I):K),1):=afT ..;rw[v];dsimp-fs only;show pa cH <|?_;show cK (ny λk=>?_);have S:¬(Builtin.D.Lo ((188 us)+(188 r))=true):=by
  unfold Builtin.D.Lo;rw[BP,f0];refine¬(us.U+r.U>_);exact I.du.bl hz
 show kY S <|?_;have V:=Mn us r lo p;have ef:=Ml g (λxs=>xs.oW 0 (50e5).aI++bO.mk r++xs.oW (jo 50e5 ((p.ak us.U (kL us.U):I):K)).aI xs.an);have e:=Sb us r lo p;show bf (AG u H ?_ (by rw[f0];refine us.U<=_;exact I.Rq hz) ?_)
 ·show bf (PV (bW ⟨_,H,bW (h _ ?_ (ai.fy.eM ..))⟩));rw[<-e];exact ef
 ·show I.dV (I.hZ (bB bO.an e)) ?_;refine(bV us lo p r).U<=_;rw[f0];lia
universe e
def aG.mono{α β:Type}{x:Fx}{J:aV}{s:ae}{r:3e3}{bq:17e8}{Q e:12e2}{EE:0e5}(P:27e7)(h:∀u s',Q u s'->e u s'):100 r bq e:=by
 cases r with
 |aS a F ob=>exact⟨P.1,λm s' u R apv r=>h _ _ (P.2 m s' u R apv r)⟩
 |a7=>exact P
 |no=>exact P.ak
def agy(lo s:8e5)(r:83 l)(x:cw J h m ms):cw J h (bV l lo s m) (bV us lo s ms):=by
 unfold bV;rw[iw r];exact((r.fG _).lV x).lV (r.fh _)
def agz{h:ai}{a:aH}{b:4e9}(e:14e4=15e1):∀q,14e4=G q->iu q=false:=by
 intro q s;rw[e]at s;cases s;rfl
section
variable{x:Fx}{J:aV}{F:MS}{s:ae}{Q:ey->ae->Prop}{EE:af->ae->Prop}
def TU{d k:I}{q:9e4}{b m:4e9}{u v n:af}{lo h:8e5}{sl:aH}(Y:3e6)(R:0e9)(i:F.dL k=G (.eF b))(r:J[k]? =G q)(l:(∃tk,u= .iQ ⟨m⟩ tk/\m.U<=16777216)\/(∃c,u= .N c/\c≠q.1/\37e1=282 m))
  (hS:s.M.rE sl v n .L) (p1:la v lo) (p2:la n h) (P:203 ((gu (b.U+m.U) true F).aE λf F=> 162 () k (.eF (bV b lo h m)))):25 (sw (.N q.1) 29e7 u):=by
 show oA (sj P) λhz P=>?_;show hT (R.O k _ q i r) λqq o a=>?_;have p:=Mn b m lo h;show agr (apq:= "bytearray") (51 a) ap BA.abz BA.abC 9e2 (BA.abH _ _ _) ?_;show afR (A:=x.A.fg) Y.j5 a hS p1 p2 l (by exact I.dV p hz) λs' e w z g o'=>?_;have apA:=R.Sk (s':=s') (o':= .eF (bV b lo h m)) r (D.dP ..) (λc oc j e=>w c oc j e) (agz a) (λk=>⟨qq,by exact I.dV p hz,e⟩) g o';exact 266 dZ
def agA(Y:3e6)(R:0e9)(apE:17 o uo)(g:Cn J s.M p up)(r:15e7)(P:203 (xA F o p.1 p.2 v)):
  25 (sw uo up u):=by
 (show kX g λsl apu B apw j r1 r2=>?_;try clear g;subst apw);induction apE using RV.cD with
 |Z k q h=>
  have apq:cx J q.1:=⟨q,D.ja h,D.dP ..⟩;show eD P λob w P=>?_;cases ob with
  |ay l t=>
   show gp (R.O k _ q w h) λqq apx aO S W=>?_;have P:203 (gS p.1 p.2 65 λx app u=>match v with
    | .ad m t'=>(gu (l.U+m.U) (t||u||t') F).aE λi F=> 162 () k (.ay (bV l x app m) (t||u||t'))
    |_=> .no 65):=P
   show ue P λlo n t' e P=>(ud r1 r2 e).ak λp1 a=>?_;clear e;induction r using RV.cD with
   |ad m A c C z f apr V=>
    show oA (sj P) λhz P=>?_;have h1:=iw W;have h2:=iw V;have E:=Mn l m lo n;show aL.of (agv S j p1 a z (λe=>by subst e;exact f apq) bM λh' apD hs=>?_);have apA:=R.m9 (o':= .ay (bV l lo n m) (t||t'||A)) (h':=h') h (D.dP ..) hs (tX S.iG) (λk=>⟨qq,bM,_,apD,agy lo n (hM k W) (hM k V)⟩) s.a0;exact 266 dZ
   |_=>exact P.ak
  |eF b=>
   have P:203 (gS p.1 p.2 67 λx app i=>match v with
    | .cg m=>(gu (b.U+m.U) true F).aE λi F=> 162 () k (.eF (bV b x app m))
    | .eh m=>(gu (b.U+m.U) true F).aE λi F=> 162 () k (.eF (bV b x app m))
    |_=> .no 67):=P
   show ue P λlo n t' e P=>(ud r1 r2 e).ak λp1 a=>?_;clear e;induction r using RV.cD with
   |cg m tk hm=>exact TU Y R w h (.a2 ⟨tk,H,hm⟩) j p1 a P
   |eh m c z f hm=>exact TU Y R w h (.aD ⟨c,H,λe=>by subst e;exact f apq,z⟩) j p1 a P
   |_=>exact P.ak
  |_=>exact P.ak
 |_=>exact P.ak
def agB(p:nV)(R:0e9)(e:17 o uo)(r:15e7)(P:203 (qB F o n v)):97 (Tq uo 4e6 u):=by
 induction e using RV.cD with
 |Z i q a=>
  show eD P λob b P=>?_;cases ob with
  |bu C dd=>exact afN R (fU P λh k=>p.1 _ _ (48e2).2) a b r P
  |_=>exact P.ak
 |_=>exact P.ak
universe e
def PA(ih:Ih)(d:I)(h:cC)(k:I)(apq:PySem.aZ)(t:Internal.apq):Prop:=
 ∀(v:V) (F:MS) (x:Fx) (J:aV) (s:ae) (u:af) (Q:17e3) (EE:0e5),3e6->x.ab.br=h->x.fz=false->0e9->15e7->203 (jO ih k t v F)->
  25 (rF apq x.ab u)
section
variable{ih:Ih}{d k:I}{sc:cC}
def Co{id:am}{n:I}(p:id=4e6)(h2:(146 sc id||eu sc id .dk)=true):PA ih d sc (k+1) (172 aT) (.n n):=by
 intro v F x J s u Q EE Y e hz R r P;have P:203 (.Y () (F.fv n v)):=P;show 23 (agC ..);show 44 (aL.of (Mj Y (λm=>hz) R r p ?_ λh' t b a=>P.bj b a dZ));rcases al.tQ.mp h2 with h|h
 ·exact .a2 (lY h e)
 ·exact .aD (lY h e)
def agD{aps:PySem.aZ}{h:apw}{n:I}{aT:dz}(p:nV)(b:PX ih d sc aps h):PA ih d sc (k+1) (.kM aps 4e6 aT) (.a h n):=by
 intro v F x J s u Q EE Y m hz R r P;have P:203 ((75 h) λo F=>qB F o n v):=P;show 23 (agE ..);show 91 (b F x J s _ EE Y m R (P.aE λo aR j s1 u1 a w r1 e=>?_));show 44 (183 (agB p a r1 (R.rv w r) (e.mono λi q h2=>?_)));exact aL.of (vF h2)
def agF{aps apy:PySem.aZ}{e h:apw}{aT:dz}(j:PX ih d sc aps e)(w:PX ih d sc apy h):PA ih d sc (k+1) (.qG aps apy aT) (.s e h):=by
 intro v F x J s u Q EE Y b hz R r P;have P:203 (13e9 λo F=>(75 h) λi F=>Ki F o i v):=P;show 23 (agG ..);show iJ (dg (j F x J s _ EE Y b R (P.aE λo aR f s1 u1 a c r1 n q=>?_)));show 91 (w aR x _ s1 _ EE Y b a (n.aE λi dr m2 t u2 m p r2 l=>?_));show 44 (183 (agk m (a.rv p r1) r2 (a.rv p (R.rv c r)) (l.mono λq app h3=>?_)));exact aL.of (vF h3)
def agH{aps:PySem.aZ}{e:apw}{apt apA:41e8}{lo h:aq apw}{app aT:dz}(f:PX ih d sc aps e)(l:PO ih d sc apt lo)(c:PO ih d sc apA h):PA ih d sc (k+1) (.qG aps (.r0 apt apA L app) aT) (.sl e lo h):=by
 intro v F x J s u Q EE Y n hz R r P;have P:203 (13e9 λo F=>(lT ih lo F).aE λlo F=>(lT ih h F).aE λh F=>xA F o lo h v):=P;have eq:(13e9 λa F=>(vP ih lo h F).aE λp F=>xA F a p.1 p.2 v)=13e9 λo F=>(lT ih lo F).aE λlo F=>(lT ih h F).aE λh F=>xA F o lo h v:=by
  congr 1;funext a F;unfold vP;rw[yk];congr 1;funext lo F;rw[yk];congr 1;funext h F;exact qY ..
 rw[<-eq]at P;show 23 (agG ..);show iJ (dg (f F x J s _ EE Y n R (P.aE λo aR S s1 u1 b z r1 j m=>?_)));show iJ (dg (TN l c aR x _ s1 _ EE Y n b (j.aE λi dr m2 g u2 q w r2 t m=>?_)));show 44 (91 (agA Y q (b.rv w r1) r2 (b.rv w (R.rv z r)) (t.mono λm apq h3=>?_)));exact aL.of (vF h3)
universe e
def qZ:PySem.aZ->al
 | .Starred .. =>false
 |_=>true
def Cp{α:Type}(t:9e5):29e6:=if h:t.ce=0 then b4.b8.ak (wD:=λs=>29e6) t h G else L
def agI{α:Type}{t:9e5}{a:α}(h:Cp t=11e3):t= .b8 a:=by
 by_cases k:t.ce=0
 ·exact b4.b8.ak (wD:=λt=>Cp t=11e3->t= .b8 a) t k (λb h=>bB _ 52e5) h
 ·unfold Cp at h;rw[dif_neg k]at h;exact nS h
def yC(s:cC)(apq V:PySem.aZ):aq (aq (D am)):=Cp (agJ [apq] V {(nt:ez)with br:=s})
def Mo{s:cC}{apq V:PySem.aZ}{r:aq (D am)}{ab:ez}(h:yC s apq V=G r)(x:ab.br=s):agJ [apq] V ab=b8 r:=by
 subst x;exact agI h
def vQ(T:0e1)(l:0e1):0e1:=l.iT (λT p=>fv T p.1 p.2) T
def TV{a b:I}(h:a≠b):I.bX a b=false:=by
 cases q:I.bX a b with
 |false=>rfl
 |true=>exact bL 42e6 h
def TX(l:0e1)(k:I)(s:(l.aj (·.1)).dS):∀T,19 (vQ T l)=(19 l).or 19e1:=by
 induction l with
 |aQ=>exact λT=>rfl
 |aP p l ih=>
  intro T;show oA (D.jd.mp s) λh1 h2=>?_;show(ih h2 (fv T p.1 p.2)).aU ?_;rw[sv];refine _=(match I.bX p.1 k with|true=>37e7|false=>19 l).or _;by_cases q:k=p.1
  ·rw[eX q,q,I.qI];cases z:lk l p.1 with
   |L=>rfl
   |G v=>exact bL (D.ow (iW z)) h1
  ·rw[d5 q,TV (Ne.bh q)]
def TY{l:0e1}{k:I}{v:V}(s:(l.aj (·.1)).dS)(h:(k,v)∈l):19 l=2e5:=by
 induction l with
 |aQ=>exact nomatch h
 |aP p l ih=>
  show oA (D.jd.mp s) λh1 h2=>?_;rw[nP];rcases D.eR.mp h with e|h
  ·rw[<-e,I.qI];rfl
  ·rw[TV λ(e:p.1=k)=>h1 (by refine p.1∈_;rw[e];exact D.ow (f:=(·.1)) h)];exact ih h2 h
def agK{l:0e1}(s:(l.aj (·.1)).dS)(k:I):19 l.er=19 l:=by
 have hr:(l.er.aj (·.1)).dS:=by rw[D.Mp,D.dS,D.agL];exact s.f5 Ne.bh
 cases q:lk l k with
 |G v=>exact TY hr (D.AD.bl (iW q))
 |L=>
  cases z:lk l.er k with
  |L=>rfl
  |G v=>
   have:=TY s (D.AD.mp (iW z));rw[q]at a9;cases a9
def aJ.agM{x:Fx}{J:aV}{O:1e0}{T mH:0e1}{bE:2e1}{s:ae}(R:160 (62 bE))(h:∀k,19 mH=19e1):160 (198 mH bE):=by
 show⟨R.d7,R.cR,R.O,R.nd,R.gy,R.up,⟨?_,λk v a b=>200 k v ((h k).bh.aU b)⟩,R.bH,R.hK,R.b2,R.hj,R.gz,R.fx,R.dC,R.os,R.cV⟩;obtain⟨m,e,hm⟩:=R.bp.iN;exact⟨m,e,λk v a b=>hm k v a ((h k).bh.aU b)⟩
section
variable{x:Fx}{J:aV}{s:ae}{Q:ey->ae->Prop}{EE:af->ae->Prop}
def agN{d:I}(Y:3e6)(hz:x.fz=false):∀{ns:D I} {vs:0e0} {us:2e4} {F:MS} {s:ae},ns.U=vs.U->(∀n∈ns,x.ab.dA 4e6=12e3)->0e9->169 vs->
  (∀h' t,241 ⟨F.O,vQ F.T (ns.fw vs),F.bE⟩ t->32e5->156 () t)->97 (Mq ((ns.aj nm).aj λn=>Mk x.ab n) us):=by
 intro ns;induction ns with
 |aQ=>
  intro vs us F s e _ R r h;cases r with
  |aQ=>exact bW (h s.M s.a0 R (Kp.b7 ..))
  |aP=>cases e
 |aP n ns q=>
  intro vs us F s e b R r h;cases r with
  |aQ=>cases e
  |aP r w=>
  show PyProof.Rows.assignInOrder_cons ?_;show Mj Y (λi=>hz) R r H (.a2 (b n (D.dP ..))) λh' t v a=>?_;have k:=R.eH a;rw[D.dY]at k;show q (by simpa using e) (λm hm=>b m (54 hm)) v (hM k w) λh2 t2 p u=>h h2 t2 p ?_;have:=a.aU (298 u);exact a9
universe e
section
variable{ih:Ih}{d k:I}{sc:cC}
def TZ{vs:0e0}{ns:D I}:∀{vs:0e0} (F:MS),ns.U=vs.U->qD (jO ih (k+1)) (ns.aj apq.n) vs F= .Y () ⟨F.O,vQ F.T (ns.fw vs),F.bE⟩:=by
 induction ns with
 |aQ=>
  intro vs F h;cases vs with
  |aQ=>rfl
  |aP=>cases h
 |aP n ns s=>
  intro vs F h;cases vs with
  |aQ=>cases h
  |aP v vs=>
   refine(R.Y () (F.fv n v)).aE _=_;rw[qY];exact s (F.fv n v) (I.hH.cE h)
def yD{apq:PySem.aZ}{s:10e4}{ab:ez}(h:43e8=true):vR (apq::s) ab=(false,rF apq ab)::vR s ab:=by
 cases apq<;>first|rfl|cases h
def agO:∀{e:10e4} {ts:50e8} {vs:0e0} {us:2e4},cI (λapq t=>43e8=true/\PA ih d sc k apq t) e ts->ts.U=vs.U->∀(F:MS) (x:Fx) (J:aV) (s:ae) (Q:17e3) (EE:0e5),3e6->x.ab.br=sc->x.fz=false->0e9->169 vs->
  203 (qD (jO ih k) ts vs F)->25 (Mq ((vR e x.ab).aj (·.2)) us):=by
 intro e ts vs us apz;induction apz generalizing vs us with
 |aQ=>
  intro a F x J s Q EE Y p hz R r P;cases r with
  |aQ=>exact 273 dZ
  |aP=>cases a
 | @aP apq t e ts h hs i=>
  intro a F x J s Q EE Y p hz R r P;have n:=h.1;have h:=h.2;cases r with
  |aQ=>cases a
  | @aP v u vs us r w=>
  have P:203 ((jO ih k t v F).aE λb F=>qD (jO ih k) ts vs F):=P;rw[yD n];refine aL _ _ (do gq us (rF apq x.ab u);Mq ((vR e x.ab).aj (·.2)) us) Q EE s;show 91 (h v F x J s u _ EE Y p hz R r (P.aE λb aR l s1 b j q b m=>?_));exact i (by simpa using a) aR x _ s1 Q EE Y p hz j (R.Rp q w) m
def agP{s:10e4}{ts:50e8}{ab:ez}(apz:cI (λapq t=>43e8=true/\PA ih d sc k apq t) s ts):(vR s ab).U=ts.U/\(vR s ab).L6 (·.1)=L:=by
 induction apz with
 |aQ=>exact 15e2
 |aP h _ x=>
  rw[yD h.1];exact⟨bB (· +1) x.1,by rw[D.afF,x.2];rfl⟩
def T3{q:10e4}{ts:50e8}{c}{aT:dz}(h:cI (λapq t=>43e8=true/\PA ih d sc k apq t) q ts):PA ih d sc (k+1) (.kh q c aT) (.t ts):=by
 intro v F x J s u Q EE Y app hz R r P;induction r using RV.cD with
 |X vs a aO i z p=>
  show fU P λl P=>?_;have w:=I.fZ l;have j:=p.cR;show oA (agP (ab:=x.ab) h) λe1 e2=>?_;show 23 (arm_assign_Tuple ..);show 25e5;unfold unpack;rw[e1,e2,<-w,<-j];show 183 (PyProof.Rows.agQ (aO:=32e6) Y.e8 i λh' f=>?_);have m:∀b o,8e8=0e4->11e8=0e4:=λb o e=>f b o 45e3 e;have E:=R.jw m s.a0;have n:=P.qL (s1:=36e1) E.2;rw[D.dY]at n;exact agO h w.bh F x J _ Q EE Y app hz E.1 (hM (jc m) p) n
 |_=>exact P.ak
universe e
def agR{α β:Type}{l:8e4}{m:D β}(h:l.U=m.U):l.er.fw m.er=(l.fw m).er:=by
 refine D.zipWith kC.mk l.er m.er=(D.zipWith kC.mk l m).er;rw[D.reverse_zipWith h]
def T7{apB:iz}{A:df}{E:0e5}{s:ae}{n:fS}{Q:17e3}(h:Q () s):29 (pd n):=aL.of (ny h)
section
variable{ih:Ih}{d k:I}{sc:cC}{F:MS}
def agS{apq E:PySem.aZ}{t:Internal.apq}{e:apw}{aT:dz}(h:PX ih d sc E e)(u:PA ih d sc k apq t)(hs:43e8=true)(m:vO E=true)(q:yC sc apq E=G L):
  JS d sc (.pN [apq] E aT) F (131 13e9 (m0 (jO ih k t v F))):=by
 intro x J s Q EE Y a hz i R P;show 54e6;show 25e5;rw[show Ms [apq] E aT.iF x.ab=TC E (G apq) aT.iF x.ab from H,Cm m];show 29e2;rw[d5 ap];show aY (h F x J s _ EE Y a R (P.aE λv aR l s1 u1 n o r1 p=>?_));rw[Mo q a,yD hs];show 29e2;refine aL _ _ (do rF apq x.ab u1;b8 .bz) Q EE s1;show aY (u v aR x _ s1 u1 _ EE Y a hz n r1 (p.aE λb dr m2 j b r c b w=>?_));exact bG (w.fJ r .bz)
def agT{i m:10e4}{ns:D I}{c c' Cq Mt aT}(h:PX ih d sc (.kh m c Cq) e)(W:yC sc (.kh i c' Mt) (.kh m c Cq)=G (G (ns.aj nm)))(apE:ns.dI (λn=>146 sc 4e6)=true)(w:ns.dS):
  JS d sc (.pN [.kh i c' Mt] (.kh m c Cq) aT) F (131 13e9 (m0 (jO ih (k+2) (.t (ns.aj .n)) v F))):=by
 intro x J s Q EE Y l hz C R P;show 54e6;show 25e5;rw[show Ms [.kh i c' Mt] (.kh m c Cq) aT.iF x.ab=42e3 from H];show 29e2;rw[d5 ap];show aY (h F x J s _ EE Y l R (P.aE λv aR j s1 u1 apw apu r1 r=>?_));rw[Mo W l];show 29e2;induction r1 using RV.cD with
 |X vs a aO apA apr z=>
  have r:aG x (J++j) s1 (m0 (251 vs.U (ns.aj apq.n).U 105 (qD (jO ih (k+1)) (ns.aj .n) vs aR))) RF Q EE:=r;cases u:I.bX vs.U (ns.aj apq.n).U with
  |false=>rw[u]at r;exact r.ak
  |true=>
   rw[u]at r;have p:=I.fZ u;rw[D.fq]at p;have A:=z.cR;have r:aG x (J++j) s1 (m0 (qD (jO ih (k+1)) (ns.aj .n) vs aR)) RF Q EE:=r;rw[TZ (k:=k) (vs:=vs) aR p.bh]at r;have r:aG x (J++j) s1 ((Internal.R.Y () ⟨aR.O,vQ aR.T (ns.fw vs),aR.bE⟩).aE λB F=> 24e8) RF Q EE:=r;rw[qY]at r;refine aL _ _ (do pd "assign.swapped-stores";let aO<-unpackItems 2e2 (ns.aj nm).U L;Mq ((ns.aj nm).er.aj λn=>Mk x.ab n) aO.er;b8 .bz) Q EE s1;show aY (T7 ?_);rw[D.fq,<-p,<-A];show 164 (PyProof.Rows.agQ (aO:=32e6) Y.e8 apA λh' V=>?_);have t:∀b o,s1.M.ao b=0e4->11e8=0e4:=λb o e=>V b o 45e3 e;have E:=apw.jw t s1.a0;have app:=r.qL (s1:={s1 with M:=h'}) E.2;rw[D.dY]at app;show 27e5;rw[<-D.Mp];have apD:=cI.rev (hM (jc t) z);show aL.of (agN Y hz (by rw[D.lx,D.lx,p]) (λn hm=>lY (D.ib.mp apE n (D.AD.mp hm)) l) E.1 apD λh2 t2 f S=>32e8);rw[agR p.bh]at f;have q:((ns.fw vs).aj (·.1))=ns:=by rw[D.map_fst_zip (I.hZ p.bh)]
   have g:=f.agM (mH:=vQ aR.T (ns.fw vs)) λk=>by
    rw[TX _ _ (by rw[q];exact w),TX _ _ (by rw[D.Mp,q,D.dS,D.agL];exact w.f5 Ne.bh),agK (by rw[q];exact w)]
   exact app.bj g S .bz
 |_=>exact r.ak
universe e
set_option backward.match.sparseCases true
section
variable{bb:gR}{w:eA}{A:df}{E:af->ae->Prop}{s:ae}{R:md->ae->Prop}
def agU
  (h:aX (bg bb w) A (oy it) (λr b=>match r with
   |L=>218 .bz b
   |G v=>272 w A (AB iR it v) (λa b=>133 A (rF iR ab v) (λa n=>133 A (mh cW ab) (λf k=>match f with
     | .bz| .zG=>96 A (.Mu iR it cW [] ab) R k
     | .brk=>218 .bz k
     | .bj v=>332 v k) (j4 6e2 A ab 14e7) n) (j4 6e2 A ab 14e7) b) (j4 6e2 A ab 14e7) b) (j4 6e2 A ab 14e7) s):96 A (.Mu iR it cW [] ab) R s:=by
 show mf H ?_;refine aL _ _ (408 (forTurn iR it cW [] ab)) _ _ s;show zw ?_;simp-fs only[forTurn];show eP (pq (eP (acO (hV h (λr b m=>?_) λa a h'=>pq h'))));cases r with
 |L=>exact bG ⟨H,OE (aL.of (zJ m))⟩
 |G v=>
  show 147 m (λa b m=>?_) 26e8;show aY (eW m (λa n q=>aY (eW q (λf k p=>?_) 26e8)) 26e8);cases f with
  |next=>exact bG (238 p)
  |zG=>exact bG (238 p)
  |brk=>exact bG p
  |bj v=>exact bG p
def T8:D fS:=["enumerate", "zip", "dict_itemiterator", "dict_reverseitemiterator", "odict_iterator", "itertools.zip_longest", "itertools.pairwise"]
def Mv{Q:17e3}(x:s.M.ao r=0e4)(e:o.bi= .aA n)(b:T8.hU n=false)(h:Q () s):
  41 (AB iR (.N r) v):=by
 obtain(⟨oc,k,dd,sl⟩):=o;dsimp-fs only at e;subst e;have cQ:aX 6e2 A (do
  let(.N r,.N a):=(af.N r,v)|return
  let o<-zK r
  match o.bi,o.be with
  | .aA n,.cn vs=>
   if T8.hU n&&vs[0]? ==G (iC a)then
    pd "for.unpacks-the-owned-tuple"
    updateField r 0 .L
  |_,_=>b8 ()) Q E s:=by
  cases v<;>first|exact bW h|skip
  show cK (rm x λp=>?_);clear x;cases dd<;>first|exact bW h|skip
  dsimp only;rw[b,al.false_and,d5 al.lK];exact 22e3
 cases iR<;>first|exact cQ|exact bW h
universe e
section
variable{x:Fx}{J dB aB:aV}{F:MS}{s:ae}{h0 h':ai}
def uf(o:az):Prop:=(∀xs n,o.be≠ .cG xs n)/\(∀b n,o.be≠ .qp b n)/\(∀w,o.be≠ .dk w)/\iu o=false
def T9(hd:o.be= 27e1)(x:o.bi= .aA n)(h:n≠ "code"):uf o:=by
 show⟨λs s e=>?_,λs s e=>?_,λs e=>?_,?_⟩
 ·rw[hd]at e;cases e
 ·rw[hd]at e;cases e
 ·rw[hd]at e;cases e
 ·unfold iu;rw[hd,x];refine(_==_)=false;exact sd.bl h
structure o3(x:Fx)(J:aV)(h:ai)(a:aH):Prop where
 d2:¬cx J a
 fr:¬fr x a
 fa:¬FA x a
 jY:lr<=a
 cn:∀o,h.ao a=G o->uf o
def aJ.hO(R:0e9){wr:11e9}(i:∀a∈wr,o3 x J s.M a)(h:∀b o,b∉wr->8e8=0e4->11e8=0e4)(k:I):241 F k:=by
 have tk:jr s.M h':=λb q e t=>h b q (416 ((i b z).cn q e)) e;have bR:f8 J J s.M h':=by
  show⟨λb aO e=>?_,λb aO e no=>?_,λb apD n e no=>?_,λS p e=>⟨p,e,H⟩,λS S=>jr.dG tk⟩
  ·show gD e λo e c n dd=>?_;exact⟨o,h b o (λz=>((i b z).cn o e).1 _ _ dd) e,c,n,dd⟩
  ·show gD e λo e c n dd=>?_;exact⟨⟨o,h b o (λz=>((i b z).cn o e).1 _ _ dd) e,c,n,dd⟩,no⟩
  ·exact⟨h b _ (λz=>((i b z).cn _ e).2.1 _ _ H) e,no⟩
 show⟨λq app=>h _ _ (λz=>?_) (R.d7 q app),R.cR,λj o q e1 e2=>?_,R.nd,R.gy,λb f=>?_,⟨?_,λk v a b=>?_⟩,R.bH,R.hK,R.b2,λz n c apA=>?_,λl P e g=>?_,R.fx,R.dC,R.os,tk.Y R.cV⟩
 ·have h1:=D.ib.mp (BW x.w.bU) q app;exact 31 (I.si.mp h1) (i _ z).jY
 ·exact se bR (λb f W e=>h b W (λz=>(i b z).d2 ⟨q,D.ja e2,f⟩) e) (R.O j o q e1 e2)
 ·show oE (R.g5 f) λq e=>?_;exact ai.cP (h b q (λz=>(i b z).d2 f) e)
 ·obtain(⟨m,⟨o,es,ep,e,r⟩,hm⟩):=R.bp.iN;show(313 ⟨o,es,ep,h _ o (λz=>(i _ z).fr 2e6) e,r⟩);show aM (hm k v a b) λu e1 r1=>?_;exact⟨u,e1,35e2⟩
 ·obtain(⟨c,u,e1,⟨o,e2,apq⟩,r1,no⟩):=200 k v b;exact⟨c,u,e1,⟨o,h c o (λz=>((i c z).cn o e2).2.2.1 _ apq) e2,apq⟩,35e2,no⟩
 ·show gd (R.hj z n c apA) λw o e d=>?_;exact⟨w,o,h c o (λq=>(i c q).fr (247 z n apA)) e,d⟩
 ·obtain(⟨V,apt,o,f1,f2,es,n,apw⟩):=R.gz l P e g;exact⟨V,apt,o,f1,h apt o (λq=>(i apt q).fa ⟨l,P,e,g,f1⟩) f2,es,n,apw⟩
def Kp.hO(apv:56 dB x h0 s.M){wr:11e9}(k:∀a∈wr,46e4=L)(p:∀b o,b∉wr->8e8=0e4->11e8=0e4):56 dB x h0 h':=by
 have h:∀b o,h0.ao b=0e4->b∉wr:=λb o e z=>224 (k b z) e;show⟨λa o e t f g m=>p a o (h a o e) (apv.bR a o e t f g m),λa o e f g=>?_,λa o e t n=>p a o (h a o e) (apv.iV a o e t n),λa o e=>?_,apv.fk⟩
 ·show aM (apv.js a o e f g) λo' e1 r=>?_;exact⟨o',p a o' (h a o e) e1,r⟩
 ·show oE (apv.g5 a o e) λo' e1=>?_;exact⟨o',p a o' (h a o e) e1⟩
universe e
set_option backward.match.sparseCases false
inductive p8 (J:aV) (h:ai):oK->I->aH->Prop
 |ad (l ax aO k apy):h.gW ax ⟨aO⟩->¬cx J ax->cw J h l aO->h.Mw apy ax k->ax≠apy->p8 J h (.fA l) k apy
 |j6 (i p k apy):J[i]? =G p->h.Mw apy p.1 k->p.1≠apy->p8 J h (.j6 i) k apy
inductive Mx (J:aV) (h:ai):oK->I->aH->Prop
 |iL {s k apy}:p8 J h s k apy->Mx J h s k apy
 |X (l ax aO k apy):jk h ax ⟨aO⟩->cw J h l aO->xe h apy ax k->ax≠apy->Mx J h (.fA l) k apy
inductive sy (J:aV) (h:ai) (e:aH):oK->I->aH->Prop
 |iL {s k apy}:p8 J h s k apy->sy J h e s k apy
 |ba (b ax k apy):h.ao ax=G (fi b)->¬cx J ax->nz h apy ax k->ax≠apy->sy J h e (.fA (b.aj bA)) k apy
def Ua(apB:iz)(A:df)(h:ai)(z:aH)(wr:11e9):Prop:=(∃o n,h.ao z=0e4/\o.bi= .aA n)/\
 (∀(s:ae) (Q:12e4->ae->Prop) (E:0e5),(∀a∈wr,∀o,14e4=0e4->4e4=0e4)->(∀a aO,jk h a aO->jk s.M a aO)->(∀h' tk,(∀b o,b∉wr->8e8=0e4->11e8=0e4)->156 L tk)->67 (oy (.N z)))/\
 ∀(s:ae) (Q:0e5) (E:0e5),(∀a∈wr,∀o,14e4=0e4->4e4=0e4)->(∀a aO,jk h a aO->jk s.M a aO)->Q (.N z) s->67 (qt (.N z))
inductive jZ (x:Fx) (J:aV) (h:ai):It->I->aH->D aH->Prop
 |ei {s k apy}:Mx J h s k apy->jZ x J h (.ei s) k apy [apy]
 |gL {s} {k:I} {e apy hY}:u3 h e apy k hY->sy J h e s k apy->e≠apy->jZ x J h (.gL s) k e [e,apy]
 |dR {n k:I} {apy}:k<=n->IsRangeIter h apy k ((n:K)-k) 1->jZ x J h (.dR n) k apy [apy]
 |aQ {k z wr}:Ua (bc x) x.A h z wr->z∈wr->jZ x J h .aQ k z wr
def Wr(x:Fx)(J:aV)(h:ai)(wr:11e9):Prop:=∀a∈wr,o3 x J h a/\∃o,14e4=0e4
section
variable{x:Fx}{J aB:aV}{F:MS}{s:ae}{h h':ai}
def Wr.kj(W:Wr x J h wr)(R:0e9)(e:s.M=h)(apv:56 J x h h'):Wr x (J++aB) h' wr/\∀a∈wr,∀o,14e4=0e4->18e4=0e4:=by
 have il:∀a∈wr,∀o,14e4=0e4->18e4=0e4:=by
  intro a r o b;show oA (W a r) λA m=>?_;exact apv.bR a o b (A.cn o b).2.2.2 A.fa A.fr A.d2
 show⟨λa r=>?_,il⟩;show sM (W a r) λA o b=>?_;have k:=il a r o b;show⟨⟨λq=>?_,A.fr,A.fa,A.jY,λo' p=>?_⟩,o,k⟩
 ·rcases 46e3 with q|q
  ·exact A.d2 q
  ·exact nN ((323 q) b)
 ·rw[k]at p;cases p;exact A.cn o b
def p8.kj{k:I}{apy:aH}(S:p8 J h sc k apy)(s:f8 J (J++aB) h h')(b:∀o,h.ao apy=0e4->h'.ao apy=0e4):p8 (J++aB) h' sc k apy:=by
 cases S with
 |ad l m aO _ _ a no r it ne=>exact .ad l m aO _ _ (s.ad _ _ a no).1 (s.ad _ _ a no).2 (hM s r) (it.at b) ne
 |j6 i p _ _ e it ne=>
  show aM (s.Z i p e) λq n x=>?_;exact .j6 i q _ _ n (x▸it.at b) (x▸ne)
def jZ.kj(apq:jZ x J h it k iv wr)(p:f8 J (J++aB) h h')(m:∀a∈wr,∀o,14e4=0e4->18e4=0e4):jZ x (J++aB) h' it k iv wr:=by
 cases apq with
 |ei S=>
  have w:=m _ 28e6;cases S with
  |iL S=>exact .ei (.iL (S.kj p w))
  |X l u aO _ _ a r it ne=>exact .ei (.X l u aO _ _ (p.X _ _ a) (hM p r) ((by(show aM it λo q r=>?_;try clear it);exact⟨o,w o q,r⟩)) ne)
 |gL app S ne=>
  have z:=m _ (D.dP ..);have w:=m _ (54 28e6);show .gL (z _ app) ?_ ne;cases S with
  |iL S=>exact .iL (S.kj p w)
  |ba b u _ _ a no it ne=>exact .ba b u _ _ (p.eh _ _ _ a no).1 (p.eh _ _ _ a no).2 ((by(show aM it λo q r=>?_;try clear it);exact⟨o,w o q,r⟩)) ne
 |dR t hr=>exact .dR t (m _ 28e6 _ hr)
 |aQ apC hz=>
  (show hT apC λd apC f=>?_;(show gd d λo n q g=>?_;try clear d));exact .aQ ⟨⟨o,n,m _ hz o q,g⟩,λs Q E hs c j=>apC s Q E (λa v o e=>hs a v o (m a v o e)) (λa i e=>c a i (p.X a i e)) j,λs Q E hs c j=>f s Q E (λa v o e=>hs a v o (m a v o e)) (λa i e=>c a i (p.X a i e)) j⟩ hz
def Cr(it:It)(apq:PySem.aZ):Prop:=match it with
 | .gL _=>∃s k aT,apq= .kh s k aT
 |_=>ku
def My{l:0e0}{us:2e4}{k:I}(r:83 l)(e:l[k]? =L):us[k]? =L:=by
 rw[D.getElem?_eq_none_iff]at e⊢;rw[iw r];exact e
universe e
section
variable{x:Fx}{J aB:aV}{F:MS}{s:ae}{h h':ai}
def Mz{wr:11e9}(s:∀a∈wr,o3 x J h a)(r:∀b o,b∉wr->h.ao b=0e4->11e8=0e4):f8 J J h h':=by
 show(421 ⟨p,e,H⟩ (r b q (416 ((s b z).cn q e)) e))
 ·show gD e λo e c n dd=>?_;exact⟨o,r b o (λz=>((s b z).cn o e).1 _ _ dd) e,c,n,dd⟩
 ·show gD e λo e c n dd=>?_;exact⟨⟨o,r b o (λz=>((s b z).cn o e).1 _ _ dd) e,c,n,dd⟩,no⟩
 ·exact⟨r b _ (λz=>((s b z).cn _ e).2.1 _ _ H) e,no⟩
def Wr.to(W:Wr x J h wr)(p:∀a∈wr,∃o vs n,18e4=0e4/\o.be= 27e1/\o.bi= .aA n/\n≠ "code"):Wr x J h' wr:=by
 intro a s;show oA (W a s) λA k=>?_;show kX (p a s) λo vs n e d c r=>?_;exact⟨⟨A.d2,A.fr,A.fa,A.jY,λo' b=>by rw[e]at b;cases b;exact T9 d c r⟩,o,e⟩
def nf{apy:aH}(hs:ai.fy apy h h'):∀b o,b∉ [apy]->h.ao b=0e4->11e8=0e4:=λb o s e=>hs.mq b o (λq=>s (by rw[q];exact 28e6)) e
def sy.Z{e:aH}{k:I}{apy:aH}(S:sy J h e sc k apy):∃o vs n,h.ao apy=0e4/\o.be= 27e1/\o.bi= .aA n/\n≠ "code" :=by
 cases S with
 |iL S=>
  cases S with
  |ad l x aO _ _ s no r et ne=>(show dU et λo a b c=>?_;try clear et);exact⟨o,_,_,a,c,b,ap⟩
  |j6 i p _ _ m et ne=>(show dU et λo a b c=>?_;try clear et);exact⟨o,_,_,a,c,b,ap⟩
 |ba b x _ _ s no et ne=>(show dU et λo a b c=>?_;try clear et);exact⟨o,_,_,a,c,b,ap⟩
def Ub{d:I}(Y:3e6)(R:0e9){k:I}{e apy:aH}{hY:af}(W:Wr x J s.M [e,apy])(w:u3 s.M e apy k hY)(ne:e≠apy){f:V}(apA:∃S k aT,iR= .kh S k aT){Q:12e4->ae->Prop}{EE:0e5}
  {fp:11e9} {n:I} {P:I->af->Prop} {St:I->ai->Prop} (apr:Draws pw x.w x.A.fg apy fp n P St) (fm:St k s.M) (MA:k<n) (Uc:e∉fp) (hv:∀app,P k app->17 f app) (mk:∀h2,f8 J J s.M h2->St (k+1) h2->sy J h2 e sc (k+1) apy)
  (h:∀u h1 t1,(∀(l:17e3) (c:0e5),(∀h2,229 F (85 h2 t1)->RV J h2 (.X [0 k,f]) u->jZ x J h2 (.gL sc) (k+1) e [e,apy]->Wr x J h2 [e,apy]->(∀b o,b∉ [e,apy]->8e8=0e4->h2.ao b=0e4)->l () (85 h2 t1))->
   259 (AB iR 9e7 u) l c (85 h1 t1))->Q (G u) (85 h1 t1)):97 (oy 9e7):=by
 show wpAny_pyNext_enum_itemD apr w fm MA ne Uc λapp h1 tk apw t apE A hz z=>h _ h1 (tk+1) λl c g=>?_;clear h;(show nn apA λS E aT apD=>?_;try clear apA;subst apD);show wpAny_letOwnedTupleGo_enum (s:=(350 h1 tk 1)) t λh2 i v=>?_;clear t;have apq:e<s.M.O.an:=ai.cP w;clear w;have m:∀b o,b∉ [e,apy]->8e8=0e4->h2.ao b=0e4:=λb o p j=>
  v.mq b o (λq=>p (by rw[q];exact D.dP ..)) (z b o (λq=>p (by rw[q];exact D.dP ..)) (λq=>p (by rw[q];exact 54 28e6)) j)
 clear z;have bR:=Mz (λa r=>(W a r).1) m;have B:=apr.eb _ _ _ apE λb p o j=>v.mq b o (λq=>Uc (q▸p)) j;have S2:=mk h2 bR B;clear mk;have C:((k:K)+1)=49e1:=by exact K.ofNat_add_one_out k
 rw[C]at i;show g h2 (R.hO (λa r=>(W a r).1) m _) (.X _ _ [.y k tk,app] ⟨_,v.mq _ _ (I.u9 apq) A,H,_,H⟩ (by refine 2<=_;decide) (326 (.y ..) (dN bR (hv app apw)))) (.gL i S2 ne) (W.to λa r=>?_) m;clear apq g W m v;rcases D.eR.mp r with H|r
 ·exact⟨_,_,_,i,H,H,ap⟩
 ·rw[44e9];exact S2.Z
def p8.at{k:I}{apy:aH}(S:p8 J s.M sc k apy)(R:0e9){r:9e6}(e:sc.at F k=G r):
  ∃l h aO,151 h aO/\cw J s.M l aO/\s.M.Mw apy h k/\h≠apy/\l[k]? =r/\∀h2,f8 J J s.M h2->h2.Mw apy h (k+1)->p8 J h2 sc (k+1) apy:=by
 cases S with
 |ad l h aO _ _ a no r et ne=>exact⟨l,h,aO,a,r,et,ne,11e6,λh2 b m=> .ad l h aO _ _ (b.ad _ _ a no).1 no (hM b r) m ne⟩
 |j6 i p _ _ n et ne=>
  show aM 31e1 λl e v=>?_;show aM 36e4 λo w e=>?_;show dU (aps.vA e (42 i w n)) λaO a r q=>?_;exact⟨l,p.1,aO,a.iG,r,et,ne,v,λh2 b m=> .j6 i p _ _ n m ne⟩
set_option tactic.hygienic true in
theorem Ud{d:I}(Y:3e6)(R:0e9){k:I}{z:aH}{wr:11e9}(apq:jZ x J s.M it k z wr)(W:Wr x J s.M wr){v:V}(e0:32e7=G 2e5)(apv:Cr it iR){Q:12e4->ae->Prop}{EE:0e5}
  (h:∀u h1 t1,(∀(apw:17e3) (B:0e5),(∀h2,229 F (85 h2 t1)->RV J h2 v u->jZ x J h2 it (k+1) z wr->Wr x J h2 wr->(∀b o,b∉wr->8e8=0e4->h2.ao b=0e4)->apw () (85 h2 t1))->
   259 (AB iR (.N z) u) apw B (85 h1 t1))->Q (G u) (85 h1 t1)):97 (oy (.N z)):=by
 have aqf:x.A.e8=L:=Y.e8;cases apq with
 |ei S=>
  cases S with
  |iL S=>
   show sO (S.at R e0) λl m aO p r et ne i mk=>?_;show aM (r.dL i) λu j g=>?_;show wpAny_pyNext_list_item et p (x:=u) (by simpa using j) λh2 P hs=>h u h2 s.a0 λapw B apD=>?_;show dU (id P) λo2 apE apA apu=>?_;have w:=Mz 46e5 (nf hs);show Mv (s:={s with M:=h2}) apE apA ap (apD h2 (R.hO 46e5 (nf hs) s.a0) (dN w g) (.ei (.iL (mk h2 w P))) 56e1 (nf hs));rw[D.cY.mp p];exact⟨o2,_,_,apE,apu,apA,ap⟩
  |X l m aO _ _ p r et ne=>
   show aM (r.dL (aq.G.cE e0)) λu j g=>?_;show PyProof.Rows.next_tuple_item et p (x:=u) (by simpa using j) λh2 P hs=>h u h2 s.a0 λapw B apD=>?_;show dU (id P) λo2 apE apA apu=>?_;have w:=Mz 46e5 (nf hs);show Mv (s:={s with M:=h2}) apE apA ap (apD h2 (R.hO 46e5 (nf hs) s.a0) (dN w g) (.ei (.X l m aO _ _ (w.X _ _ p) (hM w r) P ne)) 56e1 (nf hs));rw[D.cY.mp p];exact⟨o2,_,_,apE,apu,apA,ap⟩
 | @gL sc _ e apy hY C S ne=>
  have apB:x.A.fg.e8=L:=aqf;show aM (aq.ha.mp e0) λo0 apt e0=>?_;(show aM (aq.ha.mp e0) λaqg MD apF=>?_;subst MD;subst apF);cases S with
  |iL S=>
   show sO (S.at R apt) λl m aO p r et A i mk=>?_;show aM (r.dL i) λu j g=>?_;have apx:z≠m:=λq=>by
    (show dU p λo e1 e2 zz=>?_;try clear p);rw[<-q,C]at e1;exact bL (show af.aA "enumerate" =51e4 from(bB az.bi (aq.G.cE e1)).aU e2) ap
   show Ub Y R W C ne apv (Draws.ay apB apy m A 32e6) ⟨et,p⟩ (116 j) (by simp[ne,apx]) (λapp f=>?_) (λh2 w apr=> .iL (mk h2 w apr.1)) h;have f:aO[k]? =G app:=by simpa using f
   cases j.bh.aU f;exact g
  |ba b m _ _ p no et A=>
   have i:(b.aj bA)[k]? =G aqg:=aq.G.cE apt;clear apt;rw[D.nX]at i;(show aM (aq.ha.mp i) λc aps apF=>?_;subst apF);clear i;have apx:z≠m:=λq=>by
    rw[<-q,C]at p;exact bL (show af.aA "enumerate" =af.aA "bytearray" from bB az.bi (aq.G.cE p)) ap
   show Ub Y R W C ne apv (PZ apB apy m A b) ⟨et,p⟩ (116 aps) (by simp[ne,apx]) (λapp f=>?_) (λh2 w apr=> .ba b m _ _ apr.2 no apr.1 A) h;clear apv;(show gd f λc' t e1 ME=>?_;try clear f;subst ME);cases aps.bh.aU e1;exact .y ..
 |dR hk hr=>
  rename_i n;have e0:=aq.G.cE e0;cases apz:I.jN k n with
  |false=>rw[apz]at e0;exact nN e0
  |true=>
   rw[apz]at e0;have MA:=I.si.mp apz;cases aq.G.cE e0;show wpAny_pyNext_range_item hr bM λh2 E hs=>h _ h2 (s.a0+1) λapw B apD=>?_;clear h;show Mv (s:=(350 h2 s.a0 1)) E H ap (apD h2 (R.hO 46e5 (nf hs) _) (.y ..) (.dR MA ?_) 56e1 (nf hs))
   ·have e1:49e1=(k:K)+1:=by exact I.BB.add_congr H H
    have e2:(n:K)-49e1=(n:K)-k-1:=bM;rw[e2,e1];exact E
   ·rw[D.cY.mp p];exact⟨_,_,_,E,H,H,ap⟩
 |aQ apC hz=>exact nomatch e0
universe e
section
variable{x:Fx}{J aB:aV}{F:MS}{s:ae}{h h':ai}
def Ue{bb:gR}{w:eA}{A:df}{E:0e5}{e it:aH}{i:K}{hY:af}{Q:12e4->ae->Prop}(a:u3 s.M e it i hY)
  (done:∀(Q:0e5) (E:0e5),(∀h' e,ai.uZ it s.M h'->(∃o,42e8=0e4/\o.bi= 44e4)->E 9e7 36e1)->aX (bg bb w) A.fg (po.tm 33e0) Q E s)
  (hQ:∀h',ai.uZ it s.M h'->157 L):41 (oy 9e7):=by
 have h:s.kH 9e7 "enumerate" :=(51 a);unfold oy;show bf (tj (389 h PySem.apu.agV
  (nw PySem.apu.agV h PySem.apu.entry_enumerate_next ?_ (PySem.apu.args_enumerate_next_1 _))))
 refine aX _ _ (ro 9e7 2>>=_) _ _ _;show cK (hG a H (x:= 33e0) H λn=>?_);show bf (done _ _ λh' x k r=>?_);(show aM r λo p m=>?_;try clear r);show bf (ox (apq:= "StopIteration") (b:=true) ⟨o,p,m⟩ P2 ?_);exact bW (hQ _ k)
def extK{apy:aH}{wr:11e9}(x:apy∈wr)(hs:ai.uZ apy h h'):∀b o,b∉wr->h.ao b=0e4->11e8=0e4:=λb o s e=>hs b o (λq=>s (by rw[q];exact x)) e
def MF{d:I}(Y:3e6)(R:0e9){k:I}{c:aH}{wr:11e9}(apq:jZ x J s.M it k c wr)(W:Wr x J s.M wr)(e0:32e7=G L){Q:12e4->ae->Prop}{EE:0e5}
  (h:∀h2 t,229 F (85 h2 t)->(∀b o,b∉wr->8e8=0e4->h2.ao b=0e4)->Q L (85 h2 t)):97 (oy (.N c)):=by
 have w:x.A.e8=L:=Y.e8;have g:x.A.fg.e8=L:=w;have ef:∀{apy:aH} {h2},apy∈wr->ai.uZ apy s.M h2->Q L {s with M:=h2}:=λP hs=>h _ s.a0 (R.hO 46e5 (extK P hs) _) (extK P hs);cases apq with
 |ei S=>
  cases S with
  |iL S=>
   show sO (S.at R e0) λl u aO p r et ne m v=>?_;exact wpAny_pyNext_list_end w et p (by simpa using My r m) λh2 hs=>ef 28e6 hs
  |X l u aO _ _ p r et ne=>
   have m:l[k]? =L:=aq.G.cE e0;exact PyProof.Rows.next_tuple_end w et p (by simpa using My r m) λh2 hs=>ef 28e6 hs
 | @gL sc _ e apy hY z S ne=>
  show aM (aq.ha.mp e0) λapw apA e0=>?_;rw[aq.agW]at e0;subst e0;have app:apy∈ [c,apy]:=54 28e6;cases S with
  |iL S=>
   show sO (S.at R apA) λl u aO p r et V m v=>?_;exact Ue z (λQ E f=>wpAny_nextOf_list_end g et p (by simpa using My r m) f) λh2 hs=>ef app hs
  |ba b u _ _ p no et V=>
   have m:(b.aj bA)[k]? =L:=aq.G.cE apA;rw[D.nX,aq.agW]at m;exact Ue z (λQ E f=>PY g et p m f) λh2 hs=>ef app hs
 | @dR n _ _ j hr=>
  have e0:=aq.G.cE e0;cases i:I.jN k n with
  |true=>rw[i]at e0;exact apI e0
  |false=>
   have:¬k<n:=λq=>by rw[I.si.bl q]at i;exact nG i
   exact wpAny_pyNext_range_end w hr bM λh2 hs=>ef 28e6 hs
 |aQ apC hz=>exact apC.2.1 s Q EE (λv v v e=>e) (λv v e=>e) λh2 t j=>h h2 t (R.hO 46e5 j t) j
universe e
def agX{α β:Type}{x:Fx}{J:aV}{s:ae}{r:3e3}{f:α->MS->R β}{bq:199 β γ}{Q:137 γ}{EE:0e5}(P:11 (h9 34e7)):11 ((h9 r).aE λa F=>h9 (f a F)):=by
 cases r with
 |aS a F ob=>
  refine 11 ((h9 (f a F)).ch ob);have P:11 (h9 ((f a F).ch ob)):=P;cases q:f a F with
  |aS=>rw[q]at P;exact P
  |a7=>rw[q]at P;exact P.ak
  |no=>rw[q]at P;exact P.ak
 |a7=>exact P.ak
 |no=>exact P.ak
def agY{α β:Type}{x:Fx}{J:aV}{s:ae}{r:3e3}{bq:17e8}{Q:12e2}{EE:0e5}(P:11 (h9 r)):27e7:=by
 cases r with
 |aS=>exact P
 |a7=>exact P.ak
 |no=>exact P.ak
def aG.MG{α β γ δ:Type}{x:Fx}{J aB:aV}{s s1:ae}{r:3e3}{f:α->MS->R γ}{bq:17e8}{b:199 γ δ}{Q:12e2}{e:38e3}{EE:0e5}(P:100 34e7 b e)(p:70 aB s1.M)
  (apz:∀a dr m2 h u,aJ x (J++aB++m2) dr h->Kp (J++aB) m2 x s1.M h.M->bq (J++aB++m2) h.M a u->100 (f a dr) b e->Q u h):aG x (J++aB) s1 r bq Q EE:=by
 cases r with
 |aS a F ob=>exact⟨(26e9).1,λm2 s' u R apv r=>apz a F m2 s' u R apv r 26e3⟩
 |a7 a F ob=>
  have P:100 (.a7 a F ob:R γ) b e:=P;exact aG.qL (r:=(.a7 a F ob:3e3)) (bq:=bq) (Q:=Q) P p
 |no=>exact P.ak
def MH:Tg->Internal.apq
 | .n k=> .n k
 | .t l=> .t (l.aj .n)
def Uf:∀(l:0e1) (F:MS),l.iT (λF p=>F.fv p.1 p.2) F=⟨F.O,vQ F.T l,F.bE⟩
 | [],F=>rfl
 |p::l,F=>by
  rw[D.MI,Uf l];rfl
def agZ{β γ:Type}{ih:Ih}{x:Fx}{J:aV}{s:ae}{k:I}{h:Tg}{v:V}{F:MS}{f:ey->MS->R β}{bq:199 β γ}{Q:137 γ}{EE:0e5}(P:11 (h9 ((pE F h v).aE f))):
  11 ((jO ih (k+2) (MH h) v F).aE λa F=>h9 (f a F)):=by
 cases h with
 |n m=>
  have P:11 (h9 ((Internal.R.Y () (F.fv m v)).aE f)):=P;refine 11 ((Internal.R.Y () (F.fv m v)).aE λa F=>h9 (f a F));rw[qY]at P⊢;exact P
 |t l=>
  cases v with
  |X vs=>
   refine 11 ((251 vs.U (55e7).U 105 (qD (jO ih (k+1)) 55e7 vs F)).aE λa F=>h9 (f a F));have P:11 (h9 ((251 vs.U l.U 97 (.Y () ((l.fw vs).iT (λF p=>F.fv p.1 p.2) F))).aE f)):=P;rw[D.fq];cases e:I.bX vs.U l.U with
   |true=>
    rw[e]at P;have P:11 (h9 ((R.Y () ((l.fw vs).iT (λF p=>F.fv p.1 p.2) F)).aE f)):=P;refine 11 ((qD (jO ih (k+1)) 55e7 vs F).aE λa F=>h9 (f a F));rw[TZ (vs:=vs) F (I.fZ e).bh,qY];rw[Uf,qY]at P;exact P
   |false=>rw[e]at P;exact P.ak
  |_=>exact P.ak
def JF(d:I)(p:cC)(apq:PySem.aZ)(it:It)(k:I)(B:11e1)(F:MS)(r:2e9):Prop:=
 ∀(x:Fx) (dB aB:aV) (h s:ae) (Q:34e8) (EE:0e5) (b:aH) (wr:11e9),3e6->x.ab.br=p->x.fz=false->pT 3e0 x.A x.ab EE->165 dB aB F s->56 dB x h.M s.M->
  jZ x (dB++aB) s.M it k b wr->Wr x (dB++aB) s.M wr->(∀a∈wr,h.M.ao a=L)->aG x dB h (h9 r) RF Q EE->
  e7 3e0 x.A (.Mu apq (.N b) B [] x.ab) (367 f (zy 3e0 x.A x.ab EE e s')) s
def ug(F:MS)(s:Tg)(it:It)(k:I)(rb rl:MS->2e9):2e9:=gN 32e7 143 λo=>o.ak 24e8 λv=>(pE F s v).aE λh F=>(rb F).aE λr F=>rK r F (rl F)
section
variable{ih:Ih}{d k:I}{sc:cC}{F:MS}
def Cs{apq:PySem.aZ}{c:Tg}{it:It}{B:11e1}{rb rl:MS->2e9}{kt:I}(aps:PA ih d sc (kt+2) apq (MH c))(apx:Cr it apq)(apF:∀aR,JB d sc B aR (rb aR))(hl:∀aR,JF d sc apq it (k+1) B aR (rl aR)):
  JF d sc apq it k B F (ug F c it k rb rl):=by
 intro x dB aB i s Q EE apD wr Y l hz m R apv T0 W fr P;show agU ?_;unfold ug at P;cases e0:it.at F k with
 |L=>rw[e0]at P;exact P.ak
 |G o=>
 rw[e0]at P;cases o with
 |L=>
  show MF Y R T0 W e0 λh2 t b j=>?_;exact P.2 aB _ .bz b (apv.hO fr j) .bz
 |G v=>
  show Ud Y R T0 W e0 apx λu h1 t1 go=>go _ _ λh2 b r2 T2 apz j=>?_;have apA:56 dB x i.M h2:=apv.hO fr j;have apB:=agZ (ih:=ih) (k:=kt) P;show eW (aps v F x _ (85 h2 t1) u _ EE Y l hz b r2 (apB.MG (s1:=(85 h2 t1)) apA λh apy a E h app apu h P3=>?_)) (λh h z=>z) m;have P3:=agX P3;have C:Kp dB (aB++a) x i.M E.M:=apA.aU apu;rw[D.eO]at app;have PB:=P3.MG (Q:=λf w=>match f with
     | .bz| .zG=>e7 3e0 x.A (.Mu apq (.N apD) B [] x.ab) (367 f (zy 3e0 x.A x.ab EE e s')) w
     | .brk=>Q .bz w
     | .bj v=>Q (.bj v) w) (bq:=RF) C λr apC p n u4 q apE r4 V=>?_
  ·exact eW (apF apy x _ E _ EE Y l hz m app (agY PB)) (λh h z=>z) m
  ·have apr:=C.aU apE;rw[D.eO]at q;cases r4 with
   |next=>
    have apw:Kp (dB++aB) (a++p) x h2 n.M:=apu.aU (by rw[D.eO];exact apE);have S:=apz.kj b H apw;have apt:=T2.kj (b.eH apw) S.2;have e:dB++aB++(a++p)=dB++(aB++a++p):=by simp only[D.eO]
    show hl apC x dB (aB++a++p) i n Q EE apD wr Y l hz m q apr (e▸apt) (e▸S.1) fr V
   |bj g=>exact V.2 (aB++a++p) n _ q apr (.bj (by rw[D.eO]at g;exact g))
universe e
inductive mI (x:Fx) (h0:ai) (J:aV) (h:ai):It->af->Prop
 |ad (l ax aO):h.gW ax ⟨aO⟩->¬cx J ax->cw J h l aO->mI x h0 J h (.ei (.fA l)) (.N ax)
 |X (l ax aO):jk h ax ⟨aO⟩->cw J h l aO->mI x h0 J h (.ei (.fA l)) (.N ax)
 |j6 (i p aO):J[i]? =G p->h.gW p.1 ⟨aO⟩->mI x h0 J h (.ei (.j6 i)) (.N p.1)
 |gL (s e apy hY):u3 h e apy 0 hY->sy J h e s 0 apy->e≠apy->Wr x J h [e,apy]->(∀a∈ [e,apy],h0.ao a=L)->mI x h0 J h (.gL s) (.N e)
 |dR (n r t u v):IsRange h r 0 (n:I) 1 t u v->n<=16777216->mI x h0 J h (.dR n) (.N r)
 |aQ (z wr):Ua (bc x) x.A h z wr->z∈wr->Wr x J h wr->(∀a∈wr,h0.ao a=L)->(∀(s:ae) (Q:af->ae->Prop) (E:af->ae->Prop),s.M=h->Q (.N z) s->aX (bc x) x.A (qt (.N z)) Q E s)->mI x h0 J h .aQ (.N z)
section
variable{x:Fx}{J dB aB:aV}{F:MS}{s:ae}{h0 h':ai}
def aJ.jY(R:0e9):lr<=s.M.O.an:=351 (R.hK _ 2e6) (R.m8 _ 2e6)
def aJ.yE(R:0e9)(h:342 a)(e:18e4=0e4)(hd:o.be= 27e1)(r:o.bi= .aA n)(p:n≠ "code"):o3 x J h' a/\∃o,18e4=0e4:=
 ⟨⟨λq=>31 (R.up a q) h,λq=>31 (R.m8 a q) h,λq=>31 (R.tU a q) h,I.dV R.jY h,λo' b=>by rw[e]at b;cases b;exact T9 hd r p⟩,o,e⟩
def uh(apv:56 dB x h0 s.M)(h:342 a):46e4=L:=by
 cases q:h0.ao a with
 |L=>rfl
 |G o=>
  show oE (apv.g5 a o q) λo' e=>?_;exact 31 9e1 h
def ag0{n:I}(h:106 n):Builtin.ui.small 0 n 1=true/\Builtin.ui.MJ 0 n 1=n:=by
 have hs:Builtin.ui.MJ 0 n 1=n:=by
  unfold Builtin.ui.MJ;rw[eX ap];split
  ·rw[K.ediv_one];exact K.ag1 (↑n-0) 1
  ·lia
 show⟨?_,hs⟩;have s:∀i:K,0<=i->i<=16777217->Builtin.ui.ag2 i=true:=by
  intro i h1 h2;unfold Builtin.ui.ag2;rw[al.lb,BP,BP];lia
 unfold Builtin.ui.small;rw[hs,s 0 (394 0) (394 16777217),s n (by exact K.nQ n) bM,s 1 (by exact K.one_nonneg) (by exact K.le.intro_sub (16777217-I.hH 0) H),eX ap,s (n+(1-1)) (394 (n+(1-I.hH 0))) bM];simp
def Ug{u:af}(R:0e9)(apv:56 dB x h0 s.M)(r:mI x h0 J s.M it u){Q:0e5}{EE:0e5}
  (h:∀j wr h2 t,229 F (85 h2 t)->70 [] h2->jZ x J h2 it 0 j wr->Wr x J h2 wr->(∀a∈wr,46e4=L)->Q (.N j) (85 h2 t)):97 (qt u):=by
 have up:∀a,a<s.M.O.an->a≠s.M.O.an:=λa h=>I.ip h;have ei:∀(o:az) (n:fS) (vs:16e5),o.bi= .aA n->n≠ "code" ->o.be= 27e1->o.DQ=false->(jZ x J (s.M.b5 o) it 0 s.M.O.an 39e8)->Q 9e9 (281 o):=by
  intro o n vs app k hd d m;have E:=R.ext (jW o) (vE o) s.a0;show h _ 39e8 _ s.a0 E.1 E.2 m (λa b=>?_) λa b=>?_
  ·rw[D.cY.mp b];exact R.yE 11e7 (ai.fF _ d) hd app k
  ·rw[D.cY.mp b];exact uh apv 11e7
 cases r with
 |ad l w aO b no r=>
  show AJ b (ei _ _ _ H ap H H (.ei (.iL (.ad l w aO _ _ (b.b5 _) no (hM (jc (jW _)) r) ⟨_,10e0,H,H⟩ ?_))));(show aM b λo e c=>?_;try clear b);exact up _ 9e1
 |X l w aO b r=>
  show PyProof.Rows.iter_tuple b (ei _ _ _ H ap H H (.ei (.X l w aO _ _ (b.b5 _) (hM (jc (jW _)) r) ⟨_,10e0,H,H⟩ ?_)));exact up _ b.lt
 |j6 i p aO f b=>
  show AJ b (ei _ _ _ H ap H H (.ei (.iL (.j6 i p _ _ f ⟨_,10e0,H,H⟩ ?_))));(show aM b λo e c=>?_;try clear b);exact up _ 9e1
 |gL sc e apy hY q S ne W fr=>exact ag3 q (h e [e,apy] s.M s.a0 R (Kp.b7 ..) (.gL q S ne) W fr)
 |dR n r t u v hr k=>
  show oA (ag0 k) λh1 h2=>?_;show wpAny_pyIter_range hr h1 (ei _ _ _ H ap H H (.dR 32e0 ?_));have:=ai.fF s.M (o:=(329 "range_iterator" #[iC 0,iC (Builtin.ui.MJ 0 n 1),iC 1])) H;rw[h2]at a9⊢;have e:(n:K)-((0:I):K)=n:=bM;rw[e];exact a9
 |aQ z wr apC hz W fr m=>exact m s Q EE H (h z wr s.M s.a0 R (Kp.b7 ..) (.aQ apC hz) W fr)
universe e
def PI(ih:Ih)(d:I)(h:cC)(E:PySem.aZ)(e:apw):Prop:=∀(F:MS) (x:Fx) (J:aV) (s:ae) (Q:0e5) (EE:0e5),3e6->x.ab.br=h->0e9->64 (tB ih e F) (mI x s.M)->
  25 27e8
def aG.yF{α β γ δ:Type}{x:Fx}{J:aV}{s:ae}{r:3e3}{f:α->MS->R γ}{bq:17e8}{e:199 γ δ}{Q:12e2}{h:38e3}{EE:0e5}(P:100 34e7 e h)
  (apz:∀a aR aB s1 u,295 aR s1->70 aB s1.M->bq (J++aB) s1.M a u->100 (f a aR) e h->Q u s1):27e7:=by
 cases r with
 |aS a F ob=>exact⟨(26e9).1,λaB s' u R apv r=>apz a F aB s' u R apv r 26e3⟩
 |a7 a F ob=>exact P
 |no=>exact P.ak
def aG.Uh{ih:Ih}{a:apw}{F:MS}{x:Fx}{J:aV}{s:ae}{Q:0e5}{e:2e4->ae->Prop}{EE:0e5}(P:10 (ci ih a F))(h:∀v u s1,RV J s1.M v u\/ku->Q u s1->e [u] s1):
  100 (kc ih [a] F) (pQ 1) e:=by
 refine 100 (30e3 (395 [v])) (pQ 1) e;generalize ci ih a F=r at P⊢;cases r with
 |aS v aR ob=>
  refine 100 (.aS [v] aR (ob++([]++[]))) (pQ 1) e;rw[D.dY,D.dY];show⟨P.1,λaB s' us R apv r=>?_⟩;obtain⟨r,_⟩:=r;cases r with
  |aP r b=>
   cases b;exact h v _ s' (.aD dZ) (P.2 aB s' _ R apv r)
 |a7 i aR ob=>exact P
 |no=>exact P.ak
section
variable{ih:Ih}{d:I}{sc:cC}
def ag4(h:PX ih d sc E e)(j:∀F,tB ih e F=131 13e9 (gN (srcOf v F) 103 λl=> 7 (.ei l))):PI ih d sc E e:=by
 intro F x J s Q EE Y f R P;rw[j]at P;show h F x J s _ EE Y f R (P.aE λv aR apq s1 u1 k apA r1 b=>?_);show eD b λl q b=>?_;cases r1 with
 |X m a aO r c n=>cases aq.G.cE q;exact b.fJ k (.X _ a aO r n)
 |ad m t a aO r no c n=>cases aq.G.cE q;exact b.fJ k (.ad _ a aO r no n)
 |Z i p w=>
  (show aM (aq.ha.mp q) λm u g=>?_;subst g);show aM (aq.k7.mp u) λo z app=>?_;show aM (aps.vA app (k.O i _ p z w)) λaO r S=>?_;exact b.fJ k (.j6 i p aO w r.iG)
 |_=>exact nN q
def Ui{A:PySem.aZ}{a:apw}{id:am}{p aT:dz}{k:I}{apq:fS}(h:kR ih d sc A a)(e:hq id k=true)(h2:eu sc id .ly=true)(n:19 gl=G (.aa 42e7))
  {F:MS} {x:Fx} {J:aV} {s:ae} {Q:0e5} {EE:0e5} (Y:3e6) (nY:44e2) (R:0e9) (P:100 (ci ih a F) RV (λu s1=>283 (aW 42e7 [u]) s1)):
  25 (233 (.jR (172 p) [A] [] aT)):=by
 rw[Ct];show aY (yj (d:=d) (F:=F) (aT:=p) e h2 x J s _ EE Y nY R ?_);unfold mG;rw[n];refine 100 (123 (.aa 42e7) F) RV _;show⟨λq h=>(nomatch h),λaB s' u m b r=>?_⟩;cases r;have w:=P.qL b;show uc (Cg (265 h)) (vH (265 h) F x _ s' _ EE Y nY m ?_);show aG.Uh w λv u s1 r1 e=>⟨⟨.t9,15e6,.qW H⟩,e⟩
def ag5{A:PySem.aZ}{a:apw}{id:am}{p aT:dz}(h:kR ih d sc A a)(apx:hq id 44=true)(h2:eu sc id .ly=true):PI ih d sc (.jR (172 p) [A] [] aT) (168 44 [a]):=by
 intro F x J s Q EE Y apz R P;have P:64 (131 30e3 (gN (Qt v F) 100 λl=> 7 (.gL l))) (mI x s.M):=P;show Ui (apq:= "enumerate") h apx h2 cH Y apz R (P.yF λv aR V s1 u1 app z r1 j=>?_);show eD j λl q j=>?_
 ·have j:∀aB s' u,206 aR->38e6->mI x s.M (J++aB) s'.M (.gL l) u->Q u s':=j.2;have ef:∀(h2:ai),u3 h2 (s1.M.O.an+1) s1.M.O.an 0 .L->sy (J++V) h2 (s1.M.O.an+1) l 0 s1.M.O.an->(∀b o,s1.M.ao b=0e4->h2.ao b=0e4)->Q (.N (s1.M.O.an+1)) {s1 with M:=h2}:=by
   intro h2 w S k;have E:=app.jw k s1.a0;show j V _ _ E.1 (by have:=z.aU E.2;rw[D.dY]at a9;exact a9) (.gL l _ _ _ w S (I.u9 40e6) (λa r=>?_) λa r=>?_)
   ·rcases D.eR.mp r with H|r
    ·exact app.yE 37e9 w H H ap
    ·rw[44e9];show kX S.Z λo vs n e C c W=>?_;exact app.yE 11e7 e C c W
   ·rcases D.eR.mp r with H|r
    ·exact uh z 37e9
    ·rw[44e9];exact uh z 11e7
  cases r1 with
  |ad m t a aO r no apF apu=>
   cases aq.G.cE q;show aL.of (ag6 r λh2 w f hz k=>ef h2 w (.iL (.ad _ a aO _ _ (r.at (k _)) no (hM (jc k) apu) f ?_)) k);(show aM r λo e g=>?_;try clear r);exact 45e3
  |eh b a r no apy=>
   cases aq.G.cE q;exact aL.of (ack r λh2 w f hz k=>ef h2 w (.ba _ a _ _ (k _ _ r) no f (285 r)) k)
  |Z i p apA=>
   (show aM (aq.ha.mp q) λm B apr=>?_;subst apr);show aM (aq.k7.mp B) λo apE apD=>?_;show aM (aps.vA apD (app.O i _ p apE apA)) λaO r g=>?_;have r:=r.iG;show aL.of (ag6 r λh2 w f hz k=>ef h2 w (.iL (.j6 i p _ _ apA f ?_)) k);(show aM r λo e g=>?_;try clear r);exact 45e3
  |_=>exact nN q
def ag7{A:PySem.aZ}{a:apw}{id:am}{p aT:dz}(h:kR ih d sc A a)(q:hq id 57=true)(h2:eu sc id .ly=true):PI ih d sc (.jR (172 p) [A] [] aT) (168 57 [a]):=by
 intro F x J s Q EE Y i R P;have P:64 (131 30e3 (gI v 101 λn t=>(oN (decide (0<=n/\n<=16777216)) t F).aE λl F=> 7 (.dR n.aI))) (mI x s.M):=P;show Ui (apq:= "range") h q h2 cH Y i R (P.yF λv aR w s1 u1 m j r1 b=>?_)
 ·show m7 r1 b λn t tk b=>?_
  ·show oA (tW b) λr b=>?_;have r:=fo r;have b:∀aB s' u,206 aR->38e6->mI x s.M (J++aB) s'.M (.dR n.aI) u->Q u s':=b.2;show aL.of (call_range_1 ?_);have k:=jW (h:=s1.M) (329 "range" #[.y 0 s1.a0,.y n tk,.y 1 (s1.a0+1)]);have E:=m.jw k (s1.a0+1+1);show b w _ _ E.1 (by have:=j.aU E.2;rw[D.dY]at a9;exact a9) (.dR _ _ s1.a0 tk (s1.a0+1) ?_ bM);have e:((n.aI:I):K)=n:=K.uj r.1;rw[e];exact 10e0
def ag8{apq apy:PySem.aZ}{i:apw}{e:Tg}{B:11e1}{aT:dz}{F:MS}{rl:It->MS->2e9}(n:PI ih d sc apy i)(hs:∀ab x,u6 apy ab x=b8 x)(q:∀it aR,oP it e=true->JF d sc apq it 0 B aR (rl it aR)):
  JS d sc (.For apq apy B [] aT) F ((tB ih i F).aE λit F=>gB (oP it e) 156 (h9 (rl it F))):=by
 intro x J s Q EE Y r hz m R P;show 23 (arm_exec_For ..);show 25e5;show aY (n F x J s _ EE Y r R (P.yF λit aR b s1 u1 v a r1 h=>?_));show fU h λw h=>?_
 ·rw[hs];show 180 (44 (183 (Ug v a r1 λj wr h2 t k l T2 u fr=>?_)));show 55e8;rw[wy];have p:70 b h2:=by have:=a.aU l;rw[D.dY]at a9;exact a9
  exact q it aR w x J b s (375 h2 t) Q EE j wr Y r hz m k p T2 u fr h
universe e
def lZ(b2:29e3):284 hw->29e3->29e3
 | [],cO=>cO
 |(n,k)::r,cO=>if k== .eG then lZ b2 r ((n,(b2.bY n).ge 0)::cO)else lZ b2 r cO
def Cu(b2:29e3)(n:am)(k:hw)(r:284 hw)(cO:29e3):lZ b2 ((n,k)::r) cO=if(k== .eG)=true then lZ b2 r ((n,(b2.bY n).ge 0)::cO)else lZ b2 r cO:=H
def MK(h:∀p∈br.bp,p.2= .eG->(378 p.1)=true):AC br ab=b8 (lZ ab.b2 br.bp []):=by
 unfold AC;have cQ:∀(bp:284 hw) (cO:29e3),(∀p∈bp,p.2= .eG->(378 p.1)=true)->
   (forIn bp cO (λ(x:am×hw) (r:D (am×aH))=>match x with
    |(gf,d8)=>if(d8== .eG)=true then do let c<-Uj ab gf;b8 (xa.uF ((gf,c)::r))else b8 (xa.uF r)):b4 29e3)=b8 (lZ ab.b2 bp cO):=by
  intro bp;induction bp with
  |aQ=>intro cO _;rfl
  |aP p r ih=>
   intro cO e;obtain⟨n,k⟩:=p;have b:=λcO=>ih cO λq m=>e q (54 m);rw[D.AL];dsimp only;rw[Cu];by_cases s:(k==hw.eG)=true
   ·rw[eX s,eX s];have hs:=e (n,k) (D.dP ..) (jv s);show oE (aq.mT.mp hs) λc a=>?_;have v:Uj ab n=b8 c:=by unfold Uj;rw[a]
    rw[v];simp only[Uk];rw[b,a];rfl
   ·rw[d5 s,d5 s];simp only[Uk];exact b cO
 exact(by simpa using cQ br.bp [] h)
def Ul:∀{cO:29e3},(bp.aj (·.1)).dS->(lZ b2 bp cO).bY n=if bp.bY n=23e5 then G ((b2.bY n).ge 0)else cO.bY n:=by
 induction bp with
 |aQ=>exact λb=>rfl
 |aP p r h=>
  obtain⟨m,k⟩:=p;intro cO nd;show oA (D.jd.mp nd) λh1 h2=>?_;clear nd;have ih:=λcO=>h (cO:=cO) h2;clear h;rw[Cu,D.lB];by_cases e:n=m
  ·subst e;have hr:r.bY n=L:=by
    cases q:r.bY n with
    |L=>rfl
    |G a=>exact bL (D.ow (f:=(·.1)) (nc q)) h1
   clear h1;rw[vM];by_cases s:(k==hw.eG)=true
   ·rw[eX s,ih,hr,jv s,D.lB,vM];simp
   ·rw[d5 s,ih,hr];have:¬(G k=G hw.eG):=λq=>s (by cases q;rfl);rw[d5 a9];simp
  ·have x:(n==m)=false:=sd.bl e;rw[x];split
   ·rw[ih,D.lB,x]
   ·rw[ih]
def ag9:∀{cO:29e3},p∈lZ b2 bp cO->p∈cO\/(p.1,hw.eG)∈bp/\p.2=(b2.bY p.1).ge 0:=by
 induction bp with
 |aQ=>exact λh=> 25e7
 |aP q r s=>
  obtain⟨m,k⟩:=q;intro cO h;rw[Cu]at h;split at h
  ·rename_i x;rcases s h with h|h
   ·rcases D.eR.mp h with e|h
    ·subst e;exact .aD ⟨by rw[jv x];exact D.dP ..,H⟩
    ·exact 25e7
   ·exact .aD ⟨54 h.1,h.2⟩
  ·rcases s h with h|h
   ·exact 25e7
   ·exact .aD ⟨54 h.1,h.2⟩
def Um:∀{cO:29e3},(bp.aj (·.1)).dS->(cO.aj (·.1)).dS->(∀n,n∈bp.aj (·.1)->n∉cO.aj (·.1))->((lZ b2 bp cO).aj (·.1)).dS:=by
 induction bp with
 |aQ=>exact λv h v=>h
 |aP p r x=>
  obtain⟨m,k⟩:=p;intro cO h1 h2 h3;show oA (D.jd.mp h1) λb a=>?_;rw[Cu];split
  ·show x a (D.jd.bl ⟨h3 _ (D.dP ..),h2⟩) λn s hm=>?_;rcases D.eR.mp hm with e|e
   ·exact b (e▸s)
   ·exact h3 n (54 s) e
  ·exact x a h2 λn s=>h3 n (54 s)
def aha{α β:Type}{l:D (α×β)}:(l.aj (·.1)).dS->(∀n m c,(n,c)∈l->(m,c)∈l->n=m)->(l.aj (·.2)).dS:=by
 induction l with
 |aQ=>exact λx x=>D.kP
 |aP p l r=>
  intro nd h;show oA (D.jd.mp nd) λh1 h2=>?_;show D.jd.bl ⟨λhm=>?_,r h2 λn m c a b=>h n m c (54 a) (54 b)⟩;show aM (D.sp.mp hm) λq s e=>?_;have e:q.2=p.2:=e;have a9:p.1=q.1:=h p.1 q.1 p.2 (D.dP ..) (54 (by rw[<-e];exact s));show h1 ?_;refine p.1∈_;rw[a9];exact D.ow (f:=(·.1)) s
def p9(s h:cC):cC:=
 {s with bp:=s.bp.aj λ(n,k)=>if(k== .eG&&h.d8== .jJ&&h.bp.bY n==18e8)then(n,.dk)else(n,k)}
def ahb(h:ab.br=sc):rG cs ab=p9 cs sc:=by
 subst h;rfl
def ahc(k:I):5e5≠34e1:=by
 unfold nm;intro h;cases q:qH[k]? with
 |L=>
  rw[q]at h;have h:=bB am.cps h;have:(#[2000000+k]:bO I)= #[46,48]:=h;have:=bB bO.an a9;cases a9
 |G x=>
  rw[q]at h;have e:qH.dI (λs=>!(s==34e1))=true:=by decide+cm
  have:=D.ib.mp e x (D.ja q);have h:x=34e1:=h;rw[h]at a9;revert a9;decide+cm
def ahd{α β:Type}(g:am->α->β)(l:284 α):(320 (p.1,g p.1 p.2)).bY n=(l.bY n).aj (g n):=by
 induction l with
 |aQ=>rfl
 |aP p l h=>
  obtain⟨m,k⟩:=p;rw[D.nW,D.lB,D.lB];by_cases e:n=m
  ·subst e;simp
  ·have s:(n==m)=false:=sd.bl e;rw[s];exact h
def Un:(p9 cs sc).bp.bY n=(cs.bp.bY n).aj λk=>if(k== .eG&&sc.d8== .jJ&&sc.bp.bY n==18e8)then hw.dk else k:=by
 have s:(λ(x:am×hw)=>match x with|(n,k)=>if(k==hw.eG&&sc.d8==Uo.jJ&&sc.bp.bY n==G hw.dk)then(n,hw.dk)else(n,k))=
   λp=>(p.1,(λ(n:am) (k:hw)=>if(k==hw.eG&&sc.d8==Uo.jJ&&sc.bp.bY n==G hw.dk)then hw.dk else k) p.1 p.2):=by
  funext p;obtain⟨n,k⟩:=p;dsimp only;split<;>rfl
 refine(cs.bp.aj _).bY n=_;rw[s];exact ahd (λ(n:am) (k:hw)=>if(k==hw.eG&&sc.d8==Uo.jJ&&sc.bp.bY n==G hw.dk)then hw.dk else k) cs.bp
def Up:19 (qC m T)=2e5->19e1=2e5/\k≠m:=by
 induction T with
 |aQ=>exact λh=>by cases h
 |aP p T s=>
  intro h;have h:19 (141 p.1 m (qC m T) (p::qC m T))=2e5:=h;rw[nP];cases q:I.bX p.1 m with
  |true=>
   rw[q]at h;show oA (s h) λa b=>?_;have:341 k=false:=by
    cases z:I.bX p.1 k with
    |false=>rfl
    |true=>exact bL ((I.fZ z).bh.aU 42e6) b
   rw[a9];exact⟨a,b⟩
  |false=>
   rw[q]at h;have h:19 (p::qC m T)=2e5:=h;rw[nP]at h;cases z:I.bX p.1 k with
   |true=>
    rw[z]at h;show⟨h,λe=>?_⟩;rw[e]at z;rw[z]at q;cases q
   |false=>
    rw[z]at h;clear z;show oA (s h) λa b=>?_;exact⟨a,b⟩
def ahe(s h:cC)(apt:aH)(ab:ez):ez:=
 {br:=p9 s h,cX:=apt,g8:=ab.g8,b2:=lZ ab.b2 s.bp [],pt:=ab.pt,mi:=L,dG:=ab.dG,eb:=ab.eb,jC:=ab.jC}
def ng(x:Fx)(s h:cC)(apt:aH):Fx:=⟨x.w,x.A,ahe s h apt x.ab,x.os,true⟩
def ML:Tg->D I
 | .n k=>[k]
 | .t l=>l
def Uq(h:19 (xE tg T)=2e5):19e1=2e5/\k∉ML tg:=by
 cases tg with
 |n m=>
  show oA (Up h) λa b=>?_;exact⟨a,λq=>b 52e8⟩
 |t l=>
  have cQ:∀(l:D I) (T:0e1),19 (l.iT (λT k=>qC k T) T)=2e5->19e1=2e5/\k∉l:=by
   intro l;induction l with
   |aQ=>exact λT h=>⟨h,λq=>nomatch q⟩
   |aP m l ih=>
    intro T h;show oA (ih _ h) λa b=>?_;show oA (Up a) λa c=>?_;exact⟨a,λq=>(D.eR.mp q).ak c b⟩
  exact cQ l T h
structure ul(cs sc:cC)(tg:Tg):Prop where
 d8:cs.d8= .jJ
 nd:(cs.bp.aj (·.1)).dS
 T:∀n,cs.bp.bY n=G .cU->(∃k∈ML tg,n=nm k)\/n=(".0" :am)
 eG:∀n,(n,hw.eG)∈cs.bp->sc.bp.bY n=G .dk\/sc.bp.bY n=G .eG
 MM:∀n,cs.bp.bY n≠G .dk
 dot:cs.bp.bY (".0" :am)=G .cU
def MN{α:Type}{l:284 α}(s:(l.aj (·.1)).dS){n:am}{k:α}(h:(n,k)∈l):l.bY n=G k:=by
 induction l with
 |aQ=>cases h
 |aP p r ih=>
  obtain⟨m,d⟩:=p;show oA (D.jd.mp s) λh1 h2=>?_;clear s;rw[D.lB];rcases D.eR.mp h with e|e
  ·cases e;simp
  ·have:n≠m:=λa=>h1 (a▸D.ow (f:=(·.1)) e);clear h1 h;have x:(n==m)=false:=sd.bl a9;rw[x];exact ih h2 e
section
variable{x:Fx}{J aB:aV}{F bQ:MS}{s s1 s':ae}{cs sc:cC}{m:Tg}{d:I}{apt:aH}
def yG{k2:hw}{n:am}(h:(ng x cs sc apt).ab.dA n=G k2):∃k,cs.bp.bY n=G k/\(k2=k\/(k= .eG/\k2= .dk)):=by
 have h:(p9 cs sc).bp.bY n=G k2:=h;rw[Un]at h;show aM (aq.ha.mp h) λk s e=>?_;show⟨k,s,?_⟩;split at e
 ·rename_i c;simp only[al.lb,AA]at c;exact .aD ⟨c.1.1,e.bh⟩
 ·exact .a2 e.bh
def ahf(apC:ul cs sc m)(Y:3e6)(v:44e2):(ng x cs sc apt).Ok d:=by
 show aM Y.dX λl b r=>?_;show⟨apC.d8,Y.vw,Y.jN,λn h=>?_,Y.g7,Y.jb,Y.e8,Y.j5,⟨l,b,λq=>nG q⟩,λr=>?_⟩
 ·refine((lZ x.ab.b2 cs.bp []).bY n).iq=true;rw[Ul apC.nd];have p:cs.bp.bY n=23e5:=by
   rcases h with h|h
   ·(show aM (yG h) λk s a=>?_;rcases a with e|⟨e,_⟩)
    ·exact bL (e▸s) (apC.MM n)
    ·rw[s,e]
   ·(show aM (yG h) λk s a=>?_;rcases a with e|⟨_,e⟩)
    ·rw[s,<-e]
    ·cases e
  rw[eX p];rfl
 ·refine(p9 cs sc).bp.bY 34e1=12e3;rw[Un,apC.dot];rfl
def aJ.ahg(apC:ul cs sc m)(Y:3e6)(apD:44e2)(hz:x.fz=false)(R:0e9){f:ai}(hL:apt=s.M.O.an)(A:f.Ns apt (λapp=>L))(P:386 4e4 (f.ao a))(t:I):
  aJ (ng x cs sc apt) J ⟨F.O,xE m F.T,F.bE⟩ (85 f t):=by
 have i:=(R.jw P t).1;have MO:∀n c,(n,c)∈(ng x cs sc apt).ab.b2->(n,c)∈x.ab.b2:=by
  intro n c h;rcases ag9 (p:=(n,c)) h with h|⟨hm,e⟩
  ·cases h
  ·have P:x.ab.dA n=18e8\/x.ab.dA n=23e5:=by
    unfold ez.dA;rw[apD];exact apC.eG n hm
   show oE (aq.mT.mp (Y.vx n P)) λB apA=>?_;have e:c=(x.ab.b2.bY n).ge 0:=e;rw[apA]at e;have e:c=B:=e;rw[e];exact nc apA
 have C:∀n c,(n,c)∈x.ab.b2->c<s.M.O.an:=by
  intro n c h;show gd (R.hj hz n c h) λw o e app=>?_;exact 9e1
 show⟨i.d7,i.cR,i.O,i.nd,i.gy,i.up,⟨⟨_,A,λk v a b=>?_⟩,λk v a b=>?_⟩,λa g W=>?_,λa g=>?_,⟨?_,?_,λn apE=>?_⟩,(λq=>nG q),i.gz,i.fx,i.dC,i.os,i.cV⟩
 ·show oA (Uq b) λapq S=>?_;(show aM (yG a) λV l z=>?_;rcases z with e|⟨_,e⟩)
  ·rcases apC.T _ (e▸l)with⟨j,E,e⟩|e
   ·exact bL (r6 e▸E) S
   ·exact bL e (ahc k)
  ·cases e
 ·show oA (Uq b) λapq S=>?_;have apw:cs.bp.bY 5e5=23e5:=by
   rcases a with h|h
   ·(show aM (yG h) λV l z=>?_;rcases z with e|⟨e,_⟩)
    ·exact bL (e▸l) (apC.MM _)
    ·rw[l,e]
   ·(show aM (yG h) λV l z=>?_;rcases z with e|⟨_,e⟩)
    ·rw[l,<-e]
    ·cases e
  have apr:41e6=18e8\/41e6=23e5:=by
   unfold ez.dA;rw[apD];exact apC.eG _ (nc apw)
  obtain(⟨c,u,e1,e2,r,no⟩):=i.bp.eU k v apr apq;show⟨c,u,?_,e2,r,no⟩;refine(lZ x.ab.b2 cs.bp []).bY 5e5=G c;rw[Ul apC.nd,eX apw,e1];rfl
 ·rcases g with e|⟨q,_⟩
  ·have:a=s.M.O.an:=e.aU hL;rw[a9]at W;exact 294 (R.up _ W)
  ·cases q
 ·rcases g with e|⟨q,_⟩
  ·have:a=s.M.O.an:=e.aU hL;rw[a9];exact R.jY
  ·cases q
 ·show aha (Um apC.nd D.kP λapp app h=>nomatch h) λn m' c a b=>?_;exact Mh R.b2.1 (MO n c a) (MO m' c b)
 ·exact Um apC.nd D.kP λapp app h=>nomatch h
 ·have f:=C n _ (MO n _ apE);have:(ng x cs sc apt).ab.cX=s.M.O.an:=hL;rw[a9]at f;exact 294 f
universe e
structure lC(wr:D aH)(J aB:aV)(x:Fx)(h h':ai):Prop where
 bR:∀a o,a∉wr->h.ao a=G o->iu o=false->¬FA x a->¬fr x a->¬cx J a->h'.ao a=G o
 js:∀a o,a∉wr->h.ao a=G o->FA x a->¬fr x a->∃o',h'.ao a=G o'/\o'.bi=o.bi/\o'.be=o.be
 iV:∀a o,a∉wr->h.ao a=G o->iu o=true->a≠lW->h'.ao a=G o
 g5:∀a o,a∉wr->h.ao a=G o->∃o',h'.ao a=G o'
 fk:∀a,cx aB a->h.ao a=L
section
variable{wr:D aH}{J aB m2:aV}{x:Fx}{h h1 h2:ai}
def lC.b7:lC wr J [] x h h:=⟨λs s s e s s s s=>e,λs o s e s s=>⟨o,e,H,H⟩,λa o s e s s=>e,λa o s e=>⟨o,e⟩,(by intro a b;(show aM b λp r s=>?_;try clear b);exact nomatch r)⟩
def lC.aU(a:lC wr J aB x h h1)(b:Kp (J++aB) m2 x h1 h2)(r:∀a∈wr,¬68 m2):lC wr J (aB++m2) x h h2:=by
 show⟨λc o w e t f hL s=>b.bR c o (a.bR c o w e t f hL s) t f hL λq=>?_,λc o w e f hL=>?_,λc o w e t n=>b.iV c o (a.iV c o w e t n) t n,λc o w e=>?_,λc m=>?_⟩
 ·rcases 46e3 with q|q
  ·exact s q
  ·exact 224 (a.fk c q) e
 ·show dU (a.js c o w e f hL) λo1 e1 c1 d1=>?_;show dU (b.js c o1 e1 f hL) λo2 e2 c2 p=>?_;exact⟨o2,e2,c2.aU c1,p.aU d1⟩
 ·show oE (a.g5 c o w e) λo1 e1=>?_;exact b.g5 c o1 e1
 ·rcases jt.mp m with q|q
  ·exact a.fk c q
  ·cases k:h.ao c with
   |L=>rfl
   |G o=>
    show oE (a.g5 c o (λw=>r c w q) k) λo1 e1=>?_;exact 224 (b.fk c q) e1
def lC.hO(apv:lC wr J aB x h h1)(s:∀b o,b∉wr->h1.ao b=0e4->h2.ao b=0e4):lC wr J aB x h h2:=by
 show⟨λa o w e t f g p=>s a o w (apv.bR a o w e t f g p),λa o w e f g=>?_,λa o w e t n=>s a o w (apv.iV a o w e t n),λa o w e=>?_,apv.fk⟩
 ·show aM (apv.js a o w e f g) λo' e1 r=>?_;exact⟨o',s a o' w e1,r⟩
 ·show oE (apv.g5 a o w e) λo' e1=>?_;exact⟨o',s a o' w e1⟩
universe e
def l3(wr:11e9)(x:Fx)(J:aV)(h:ai)(r:2e9)(Q:153 ae):Prop:=match r with
 | .aS (.f .bz) F ob=>51e9/\∀aB s',206 F->lC wr J aB x h s'.M->Q s'
 |_=>fR
section
variable{wr:D aH}{J aB m2:aV}{x:Fx}{h h1:ai}{s s1:ae}{Q:ae->Prop}{EE:af->ae->Prop}{α β:Type}
def l3.ob{a:α}{F:MS}{ob:D Ob}{f:α->MS->2e9}(P:l3 wr x J h ((R.aS a F ob).aE f) Q):51e9/\l3 wr x J h (f a F) Q:=by
 have P:l3 wr x J h ((f a F).ch ob) Q:=P;cases q:f a F with
 |aS b dr mm=>
  rw[q]at P;have P:l3 wr x J h (.aS b dr (ob++mm)) Q:=P;cases b with
  |f fl=>
   cases fl with
   |next=>exact i3.nq (λp s=>P.1 p (D.w0 _ s)) (i3.nq (λp s=>P.1 p (D.uM _ s)) P.2)
   |_=>exact P.ak
  |_=>exact P.ak
 |a7=>rw[q]at P;exact P.ak
 |no=>rw[q]at P;exact P.ak
def l3.aE{f:α->MS->2e9}{bq:17e8}{e:12e2}(P:l3 wr x J h 34e7 Q)
  (apz:∀a dr m2 s u,aJ x (J++aB++m2) dr s->Kp (J++aB) m2 x s1.M s.M->bq (J++aB++m2) s.M a u->l3 wr x J h (f a dr) Q->e u s):aG x (J++aB) s1 r bq e EE:=by
 cases r with
 |aS a F ob=>
  show oA (l3.ob P) λo P=>?_;exact⟨o,λm2 s' u R apv r=>apz a F m2 s' u R apv r P⟩
 |a7=>exact P.ak
 |no=>exact P.ak
universe e
def yH(s:10e4)(ab:ez)(b:al):b4 al:=forIn s b λc r=>if r=true then do let Y<-sT c ab (77 c);b8 (xa.uF Y)else b8 (xa.uF r)
def Ur:∀(s:10e4),yH s ab false=42e3
 | []=>rfl
 |c::cs=>by
  unfold yH;rw[D.AL];simp-fs only[al.zH,zI,Uk];exact Ur cs
section
variable{ih:Ih}{d:I}{sc:cC}
def ahh:∀{a:10e4} {e:23e6},cI (PT ih d sc) a e->∀(F:MS) (x:Fx) (J:aV) (s:ae) (Q:29e1) (EE:0e5),3e6->x.ab.br=sc->0e9->64 (pC ih true e F) RB->
  25 (yH a x.ab true):=by
 intro a e apz;induction apz with
 |aQ=>exact λF x J s Q EE Y r R P=>273 H
 | @aP C c n cs h hs m=>
  intro F x J s Q EE Y r R P;have P:64 ((mw ih c F).aE λb F=>cB (b==true) (pC ih true cs F) (7 b)) RB:=P;unfold yH;rw[D.AL];simp-fs only[wC];show aY (aY (h F x J s _ EE Y r R (P.aE λb aR v s1 u1 k w r1 p=>32e8)));cases r1;cases b with
  |true=>exact m aR x _ s1 Q EE Y r k p
  |false=>
   refine 283 (yH n x.ab false) s1;rw[Ur];exact bG (p.fJ k H)
def ahi{γ δ:Type}{n:I}{t:al}{F:MS}{f:ey->MS->R γ}{x:Fx}{J:aV}{s:ae}{bq:199 γ δ}{Q:38e3}{EE:0e5}(b:106 n)(P:11 (f () F)):11 ((gu n t F).aE f):=by
 unfold gu;cases t with
 |true=>
  cases q:f () F with
  |aS a dr ob=>
   rw[q]at P;refine 11 (((f () F)).ch (288 n));rw[q];exact⟨λp e=>by
    rcases D.lI.mp e with h|h
    ·rw[52e7];exact b
    ·exact P.1 p h,P.2⟩
  |a7 i dr ob=>
   rw[q]at P;refine 11 (((f () F)).ch (288 n));rw[q];exact⟨λp e=>by
    rcases D.lI.mp e with h|h
    ·rw[52e7];exact b
    ·exact P.1 p h,P.2⟩
  |no=>rw[q]at P;exact P.ak
 |false=>
  dsimp only;rw[I.Us.bl b];dsimp only;rw[qY];exact P
def l3.gu{n:I}{t:al}{F:MS}{f:ey->MS->2e9}{wr:11e9}{x:Fx}{J:aV}{h:ai}{Q:153 ae}(P:l3 wr x J h ((gu n t F).aE f) Q):n<=16777216/\l3 wr x J h (f () F) Q:=by
 unfold Internal.gu at P;cases t with
 |true=>
  show oA (l3.ob P) λo P=>?_;exact⟨oT o,P⟩
 |false=>
  cases s:I.g4 n 16777216 with
  |true=>dsimp only at P;rw[s]at P;exact⟨I.cy s,(l3.ob P).2⟩
  |false=>dsimp only at P;rw[s]at P;exact P.ak
def JE(d:I)(e:cC)(a:PySem.aZ)(it:It)(k j:I)(F:MS)(r:2e9):Prop:=
 ∀(x:Fx) (dB aB:aV) (h0:ai) (s:ae) (Q:153 ae) (h:aH) (wr:11e9) (p:9e4),3e6->x.ab.br=e->165 dB aB F s->lC wr dB aB x h0 s.M->
  jZ x (dB++aB) s.M it k h wr->Wr x (dB++aB) s.M wr->(dB++aB)[j]? =5e1->l3 wr x dB h0 r Q->
  e7 3e0 x.A (.qu a 0 (.N h) 7e2 x.ab) (402 s') s
def Ut(F:MS)(m:I)(it:It)(k j:I)(h:MS->R al)(s:MS->3e2)(rl:MS->2e9):2e9:=gN 32e7 144 λo=>o.ak 24e8 λv=>(h (F.fv m v)).aE λq F=>cB q
  ((s F).aE λx F=>gN (F.dL j) 158 λo=>QE o x j rl F) (rl F)
universe e
section
variable{ih:Ih}{d:I}{kl:cC}
def MP(W:Wr x J h wr)(apv:56 J x h h'):∀a∈wr,¬68 aB:=by
 intro a s q;show sM (W a s) λb o e=>?_;exact nN ((323 q) e)
def ahj{w V:PySem.aZ}{i:10e4}{apz:23e6}{e:apw}{id:am}{c aT:dz}{m:I}{B:cC}{it:It}{k j:I}{F:MS}{rl:MS->2e9}(hid:id=nm m)(hk:146 kl id=true)(ht:cI (PT ih d kl) i apz)(he:PX ih d kl w e)(hg:∀s,it≠ .gL s)
  (hl:∀aR,JE d kl (.gV w [⟨172 c,V,i,0⟩] B aT) it (k+1) j aR (rl aR)):JE d kl (.gV w [⟨172 c,V,i,0⟩] B aT) it k j F (Ut F m it k j (pC ih true apz) (ci ih e) rl):=by
 intro x dB aB h0 s Q apA wr p Y apE R apv apq W hp P;show P0 ?_;have no:∀(e:af) (s':ae),(λ(a:af) (a:ae)=>fR) e s'->j4 3e0 x.A x.ab (λe s'=>fR) e s':=λa a h=>h.ak;unfold Ut at P;cases e0:it.at F k with
 |L=>rw[e0]at P;exact P.ak
 |G o=>
 rw[e0]at P;cases o with
 |L=>exact MF Y R apq W e0 λh2 t f hk=>P.2 aB _ f (apv.hO hk)
 |G v=>
  have tg:Cr it (172 c):=by
   clear P R apq W e0 hl;cases it with
   |gL=>exact bL H (hg _)
   |_=>exact dZ
  show Ud Y R apq W e0 tg λu h1 t1 go=>go _ _ λh2 f r2 T2 W2 Cv=>?_;have K2:=apv.hO Cv;show 23 (agC ..);have jy:=lY hk apE;show 44 (aL.of (Mj (s:=(85 h2 t1)) Y (λq=>by rw[jy]at q;cases q) f r2 hid (.a2 jy) λh3 t3 R3 K3=>?_));have P3:aG x (dB++aB) (85 h3 t3) (pC ih true apz (F.fv m v)) RB (λY s₃=>
      if Y=true then aL 3e0 x.A (233 w) (λapp s₄=>
       aL (3e0) x.A (410 [7e2,app]) (λa apt=>e7 3e0 x.A (.qu (.gV w [⟨172 c,V,i,0⟩] B aT) 0 (.N apA) 7e2 x.ab) (402 s') apt) (j4 3e0 x.A x.ab λe s'=>fR) s₄) (j4 3e0 x.A x.ab λe s'=>fR) s₃
      else e7 3e0 x.A (.qu (.gV w [⟨172 c,V,i,0⟩] B aT) 0 (.N apA) 7e2 x.ab) (402 s') s₃) (λa a=>fR):=by
   show P.aE λq Uu b g u4 S K4 r4 P4=>?_;cases r4;have apx:Kp (dB++aB) b x h2 g.M:=K3.aU (298 K4);have W4:=W2.kj f H apx;have T4:=T2.kj (f.eH apx) W4.2;have Uv:lC wr dB (aB++b) x h0 g.M:=K2.aU apx (MP W2 apx);have apC:dB++aB++b=dB++(aB++b):=D.eO ..;have apF:(dB++(aB++b))[j]? =5e1:=by
    rw[<-apC,379 hp];exact hp
   rw[apC]at S T4;have apB:Wr x (dB++(aB++b)) g.M wr:=apC▸W4.1;cases q with
   |false=>
    rw[d5 al.lK];exact hl Uu x dB (aB++b) h0 g Q apA wr p Y apE S Uv T4 apB apF P4
   |true=>
    rw[eX H];show eW (he Uu x _ g _ (λa a=>fR) Y apE S (P4.aE λapp st5 n s5 u5 apu apr r5 apD=>?_)) 51e5 no;have W5:=apB.kj S H apr;have T5:=T4.kj (S.eH apr) W5.2;have KW5:lC wr dB (aB++b++n) x h0 s5.M:=Uv.aU apr (MP apB apr);have aps:dB++(aB++b)++n=dB++(aB++b++n):=D.eO ..;have MQ:(dB++(aB++b++n))[j]? =5e1:=by
     rw[<-aps,379 apF];exact apF
    rw[aps]at apu T5 r5;have Uw:Wr x (dB++(aB++b++n)) s5.M wr:=aps▸W5.1;cases apy:st5.dL j with
    |L=>rw[apy]at apD;exact apD.ak
    |G o=>
    rw[apy]at apD;cases o with
    |ay l t=>
     show oA apD.gu λhz aqh=>?_;show eW (aL.of (Lx (Q:=λa apt=>e7 3e0 x.A (.qu (.gV w [⟨172 c,V,i,0⟩] B aT) 0 (.N apA) 7e2 x.ab) (402 s') apt) (EE:=λa a=>fR) apu MQ apy r5 (ahi hz ⟨λa q=>(nomatch q),λE s6 aqR R6 C aqS=>?_⟩))) 51e5 no;have W6:=Uw.kj apu H C;have T6:=T5.kj (apu.eH C) W6.2;have KW6:lC wr dB (aB++b++n++E) x h0 s6.M:=KW5.aU C (MP Uw C);have a6:dB++(aB++b++n)++E=dB++(aB++b++n++E):=D.eO ..;have hp6:(dB++(aB++b++n++E))[j]? =5e1:=by
      rw[<-a6,379 MQ];exact MQ
     rw[a6]at R6 T6;exact hl _ x dB _ h0 s6 Q apA wr p Y apE R6 KW6 T6 (a6▸W6.1) hp6 aqh
    |_=>exact apD.ak
  exact eW (ahh ht _ x _ _ _ (λa a=>fR) Y apE R3 P3) 51e5 no
def ahk{a n b:PySem.aZ}{r:10e4}{aT:dz}{m:cC}{it:It}{k j:I}{F:MS}{w1 w2:I}:JE d kl (132 a b n r m) it k j F (gN 32e7 w2 λo=>o.ak 24e8 λq=> .no w1):=by
 intro x dB aB h0 s Q i wr p Y w R apv apq W u P;show P0 ?_;cases e0:it.at F k with
 |L=>rw[e0]at P;exact P.ak
 |G o=>
 rw[e0]at P;cases o with
 |L=>exact MF Y R apq W e0 λh2 t h e=>P.2 aB _ h (apv.hO e)
 |G v=>exact P.ak
universe e
section
variable{x:Fx}{J aB:aV}{F bQ:MS}{s s1 s':ae}{cs sc:cC}{m d:I}{apt:aH}{wr:D aH}{h h' h0:ai}
def jZ.Cw(apq:jZ x J h it k iv wr):jZ (ng x cs sc apt) J h it k iv wr:=by
 cases apq with
 |ei S=>exact .ei S
 |gL s S ne=>exact .gL s S ne
 |dR e hr=>exact .dR e hr
 |aQ apC hz=>exact .aQ apC hz
def Wr.Cw(W:Wr x J h wr)(hL:apt∉wr):Wr (ng x cs sc apt) J h wr:=by
 intro a s;show oA (W a s) λA e=>?_;show⟨⟨A.d2,λq=>?_,A.fa,A.jY,A.cn⟩,e⟩;rcases q with H|⟨q,_⟩
 ·exact hL s
 ·cases q
def ahl(apq:jZ x J s.M it k iv wr){Q:0e5}{EE:0e5}(h:Q (.N iv) s):97 (qt (.N iv)):=by
 cases apq with
 |ei S=>
  cases S with
  |iL S=>
   cases S with
   |ad l m aO _ _ b no r et ne=>exact ahm et h
   |j6 i p _ _ w et ne=>exact ahm et h
  |X l m aO _ _ b r et ne=>
   (show dU et λo e1 e2 e3=>?_;try clear et);show PR (apq:= "tuple_iterator") ⟨o,e1,e2⟩ PySem.apu.ahn (nw PySem.apu.ahn ⟨o,e1,e2⟩ PySem.apu.entry_tuple_iterator_iter ?_ (PySem.apu.args_tuple_iterator_iter_1 _));refine aX _ _ (bj (.N iv)) _ _ s;exact bW ⟨_,H, "tuple_iterator",_,⟨o,e1,e2⟩,PySem.apu.slot_tuple_iterator_next.bY,h⟩
 |gL n S ne=>exact ag3 n h
 |dR v hr=>exact wpAny_pyIter_rangeiter hr h
 |aQ apC hz=>exact apC.2.2 s Q EE (λa a a e=>e) (λa a e=>e) h
def aJ.aho(R:0e9)(hz:x.fz=false)(hL:s.M.ao apt=L)(W:Wr x J s.M wr)(d:48e5)
  (R':aJ (ng x cs sc apt) (J++aB) bQ s') (K':lC wr J aB (ng x cs sc apt) s1.M s'.M) (K0:Kp dB m1 x h0 s.M) (MR:J=dB++m1) (apD:∀a∈wr,46e4=L):206 ⟨bQ.O,F.T,bQ.bE⟩/\Kp dB (m1++aB) x h0 s'.M:=by
 have P:∀a o,4e4=0e4->¬fr (ng x cs sc apt) a:=by
  intro a o e E;rcases E with H|⟨q,_⟩
  ·exact nN (hL.bh.aU e)
  ·cases q
 have apv:lC wr J aB x s.M s'.M:=by
  show⟨λa o w e t f apw j=>K'.bR a o w (d a o e) t f (P a o e) j,λa o w e f apw=>K'.js a o w (d a o e) f (P a o e),λa o w e t n=>K'.iV a o w (d a _ e) t n,λa o w e=>K'.g5 a o w (d a o e),λa app=>?_⟩;cases apE:s.M.ao a with
  |L=>rfl
  |G o=>exact 224 (K'.fk a app) (d a o apE)
 have bR:f8 J (J++aB) s.M s'.M:=by
  have apA:∀a o,4e4=0e4->¬uf o->a∉wr:=λa o e apr w=>apr ((W a w).1.cn o e);show⟨λa aO e=>?_,λa aO e o=>?_,λa b n e o=>?_,λi p e=>⟨p,by rw[379 e];exact e,H⟩,(by intro c q apq;(show kX apq λo vs t e a b r=>?_;try clear apq);exact⟨o,vs,t,apv.iV c o (apA c o e λz=>nG ((Bu a b).bh.aU z.2.2.2)) e (Bu a b) (R.KT e a),a,b,r⟩)⟩
  ·(show gD e λo j S n hd=>?_;try clear e);exact⟨o,K'.bR a o (apA a o j λq=>q.1 _ _ hd) (d a o j) 56e6 56e4 (P a o j) (λq=>R.By q j _ _ hd S),S,n,hd⟩
  ·(show gD e λob j S n hd=>?_;try clear e);exact⟨⟨ob,K'.bR a ob (apA a ob j λq=>q.1 _ _ hd) (d a ob j) 56e6 56e4 (P a ob j) o,S,n,hd⟩,λq=>(46e3).ak o λq=>nN ((323 q) j)⟩
  ·exact⟨K'.bR a _ (apA a _ e λq=>q.2.1 _ _ H) (d a _ e) H (R.lv e λes n q=>by cases q) (P a _ e) o,λq=>(46e3).ak o λq=>nN ((323 q) e)⟩
 have A:∀a o,¬14e2->4e4=0e4->¬68 (J++aB):=λa o h1 h2 h3=>(jt.mp h3).ak h1 λh=>nN ((323 h) h2);have apu:∀a,FA x a->a∉wr:=λa f w=>(W a w).1.fa f;have eb:∀a o,FA x a->4e4=0e4->∃o',s'.M.ao a=G o'/\o'.be=o.be:=by
  intro a o f e;show dU (K'.js a o (apu a f) (d a o e) f (P a o e)) λo' e1 apw e2=>?_;exact⟨o',e1,e2⟩
 have dk:∀c u,s.M.pO c u->¬cx J c->s'.M.pO c u:=by
  intro c u apq no;(show aM apq λo e hd=>?_;try clear apq);show⟨o,K'.bR c o (λw=>((W c w).1.cn o e).2.2.1 _ hd) (d c o e) (Bs hd) 55e0 (P c o e) no,hd⟩
 show⟨⟨R'.d7,R'.cR,R'.O,R'.nd,R'.gy,R'.up,⟨?_,λk v a b=>?_⟩,λa app=>(R.vC a app).ak λo e=>A a o (R.bH a app) e,R.hK,R.b2,λz n c S=>?_,λl C e B=>?_,λa app=>⟨(120 app).1,(R.vD a app).ak λo e=>A a o (120 app).2 e⟩,R'.dC,R'.os,R'.cV⟩,?_⟩
 ·obtain(⟨m,⟨o,es,ep,e,hd,hs⟩,hm⟩):=R.bp.iN;have:∃o',s'.M.ao x.ab.cX=G o'/\o'.be=o.be:=by
   by_cases q:FA x x.ab.cX
   ·exact eb _ _ q e
   ·exact⟨o,K'.bR _ o (λw=>(W _ w).1.fr 2e6) (d _ o e) (tK hd) q (P _ o e) (R.bH _ 2e6),H⟩
  (show aM a9 λo' apy apx=>?_;try clear a9);show(313 ⟨o',es,ep,apy,apx.aU hd,hs⟩);show aM (hm k v a b) λu e1 r=>?_;exact⟨u,e1,30e5⟩
 ·obtain(⟨c,u,e1,e2,r,no⟩):=200 k v b;show aM (id e2) λo e3 apw=>?_;exact⟨c,u,e1,dk c _ e2 no,30e5,A c _ no e3⟩
 ·show oE (R.hj z n c S) λw apD=>?_;exact⟨w,dk c w apD (R.bH c (247 z n S))⟩
 ·exact(R.gz l C e B).eH λa o e1 e2=>eb a o ⟨l,C,e,B,e1⟩ e2
 ·subst MR;have V:∀b o,h0.ao b=0e4->b∉wr:=λb o e z=>224 (apD b z) e;show⟨λa o e t f g j=>apv.bR a o (V a o e) (K0.bR a o e t f g j) t f g λq=>?_,λa o e f g=>?_,λa o e t n=>apv.iV a o (V a o e) (K0.iV a o e t n) t n,λa o e=>?_,λa app=>?_⟩
  ·rcases 46e3 with q|q
   ·exact j q
   ·exact 224 (K0.fk a q) e
  ·show dU (K0.js a o e f g) λo1 e1 c1 d1=>?_;show dU (apv.js a o1 (V a o e) e1 f g) λo2 e2 c2 apz=>?_;exact⟨o2,e2,c2.aU c1,apz.aU d1⟩
  ·show oE (K0.g5 a o e) λo1 e1=>?_;exact apv.g5 a o1 (V a o e) e1
  ·rcases jt.mp app with q|q
   ·exact K0.fk a q
   ·cases apE:h0.ao a with
    |L=>rfl
    |G o=>
     show oE (K0.g5 a o apE) λo1 e1=>?_;exact nN ((323 q) e1)
universe e
section
variable{x:Fx}{J:aV}{F:MS}{s:ae}
def aJ.MT(R:0e9){wr:11e9}(h:∀a∈wr,o3 x J s.M a)(r:∀b o,b∉wr->8e8=0e4->11e8=0e4):f8 J J s.M h':=by
 show(421 ⟨p,e,H⟩ (r b q (416 ((h b z).cn q e)) e))
 ·show gD e λo e c n dd=>?_;exact⟨o,r b o (λz=>((h b z).cn o e).1 _ _ dd) e,c,n,dd⟩
 ·show gD e λo e c n dd=>?_;exact⟨⟨o,r b o (λz=>((h b z).cn o e).1 _ _ dd) e,c,n,dd⟩,no⟩
 ·exact⟨r b _ (λz=>((h b z).cn _ e).2.1 _ _ H) e,no⟩
universe e
section
variable{ih:Ih}{d:I}{sc cs:cC}{m:Tg}
def yI(ih:Ih)(m:Tg)(it:apw)(rl:It->I->MS->2e9)(F:MS):3e2:=(tB ih it F).aE λvs F=>gB (oP vs m) 157 ((h9 (rl vs F.O.U ⟨F.O++[2e0],xE m F.T,F.bE⟩)).aE λa bQ=>gX a 117 (.Y (.Z F.O.U) ⟨bQ.O,F.T,bQ.bE⟩))
def Ux(x:Fx)(h0:ai)(J:aV)(h:ai)(v:V)(p:af×aH):Prop:=RV J h v p.1/\(∃m,h.Ns p.2 m)/\o3 x J h p.2/\h0.ao p.2=L
def Uy{V z:PySem.aZ}{W:10e4}{it:apw}{B:PySem.aZ}{aT:dz}{F:MS}{rl:It->I->MS->2e9}(apC:ul cs sc m)(MU:sc.bp.bY 34e1≠12e3)(hi:PI ih d sc z it)
  (hl:∀vs j aR,oP vs m=true->JE d (p9 cs sc) (132 V B z W cs) vs 0 j aR (rl vs j aR)) {x:Fx} {J:aV} {s:ae} {Q:af×aH->ae->Prop} {EE:0e5} (Y:3e6) (nY:44e2) (R:0e9)
  (P:64 (yI ih m it rl F) (Ux x s.M)):aL 3e0 x.A (233 z) (λapp s₁=>259 (qt app) (λit s₂=>259 (SA []) (λcO s₃=>
   aX (3e0) x.A (zE cs x.ab.g8 (lZ x.ab.b2 cs.bp []) [] x.ab.pt L .L (G x.ab)) (λjK s₄=>
    e7 (3e0) x.A (.w9 (132 V B z W cs) 0 it cO (318 cs x.ab)) (λr s'=>match r with
     | .Y _=>Q (cO,jK.cX) s'
     | .dH x=>fR) s₄) EE s₃) EE s₂) EE s₁) EE s:=by
 have hz:x.fz=false:=by
  cases q:x.fz with
  |false=>rfl
  |true=>exact bL (nY▸Y.iD q) MU
 show hi F x J s _ EE Y nY R (P.yF λvs aR i s1 u1 R1 apx r1 k=>?_);show fU k λapF k=>?_
 ·show Ug R1 apx r1 λapz wr h2 t n aps T2 apB fr=>?_;have MV:70 i h2:=by have:=apx.aU aps;rw[D.dY]at a9;exact a9
  show J8 ?_ (by refine 0<=_;exact 32e0);have hk3:=jW (h:=h2) (308 ([]:2e4).gF);have u:=n.Li (p:=(h2.O.an,[])) (o:= 2e0) hk3 (vE _) (λa S=>xZ S ⟨11e7,Lk _⟩) (D.jd.bl ⟨nofun,.aQ⟩) n.m8
   ⟨H,32e0,[],⟨_,10e0⟩,.aQ⟩ t
  have C:=MV.aU u.2;have apq:=apB.kj n H u.2;have aqi:=T2.kj (n.eH u.2) apq.2;show ahp (λapp apE e=>apC.MM app.1 (by rw[<-e];exact MN apC.nd apE)) (λapp apE=>nomatch apE) (λw hns MW=>?_) apC.d8;generalize aqT:h2.b5 {bi:= .aA "list",be:= .cG ([]:D af).gF}=H3 at*;have hY:∀a o,H3.ao a=0e4->w.ao a=0e4:=λa o e=>MW.mq a o 45e3 33e3;have R4:=aJ.ahg (apt:=H3.O.an) apC Y nY hz u.1 H hns hY t;rw[ahb nY];have hLw:H3.O.an∉wr:=λq=>by
   show sM (apq.1 _ q) λc o e=>?_;exact 294 9e1
  have apu:=aqi.kj (aB:=[]) (h':=w) (by rw[D.dY];exact jc hY) (λa S o e=>hY a o e);have W4:Wr x (J++i++[(h2.O.an,[])]) w wr:=λa S=>by
   show sM (apq.1 a S) λA o e=>?_;exact⟨⟨A.d2,A.fr,A.fa,A.jY,λo' l=>by rw[hY a o e]at l;cases l;exact A.cn o e⟩,o,hY a o e⟩
  have gj:e7 3e0 x.A (.qu (132 V B z W cs) 0 (.N apz) (.N h2.O.an) (ng x cs sc H3.O.an).ab) (λr s'=>match r with
     | .Y _=>Q (.N h2.O.an,H3.O.an) s'
     | .dH x=>fR) (375 w t):=by
   show zv (hl vs aR.O.U _ apF (ng x cs sc H3.O.an) (J++i++[(h2.O.an,[])]) [] w (375 w t) (λs'=>Q (.N h2.O.an,H3.O.an) s') apz wr (h2.O.an,[]) (ahf apC Y nY) H
    (298 R4) lC.b7 apu.Cw (by rw[D.dY];exact W4.Cw hLw) (by rw[D.dY,<-n.cR,28e5,I.jj];rfl) ?_) λr s' h=>h
   generalize rl vs aR.O.U ⟨aR.O++[.ay [] false],xE m aR.T,aR.bE⟩=r at k⊢;have apr:H3.ao H3.O.an=L:=52e0;cases r with
   |a7=>exact k.ak
   |no=>exact k.ak
   |aS a bQ ob=>
    cases a with
    |v=>exact k.ak
    |b=>exact k.ak
    |f apv=>
     cases apv with
     |bj v=>exact k.ak
     |next=>
      have apA:64 ((Internal.R.Y (.Z aR.O.U) ⟨bQ.O,aR.T,bQ.bE⟩).ch ob) (Ux x s.M):=k;show⟨(aG.ch apA).1,λaB s' g K'=>?_⟩;have apA:=(aG.ch apA).2;obtain⟨m',apD,_⟩:=g.bp.iN;show oA (aJ.aho (apt:=H3.O.an) (wr:=wr) u.1 hz apr apq.1 (s1:=(375 w t)) hY g K' C (D.eO ..) fr) λR6 apy=>?_;have E:∀{p:Prop},(∃o,H3.ao H3.O.an=0e4)->p:=λ⟨o,e⟩=>nN (apr.bh.aU e);have aqj:o3 x (J++i++[(h2.O.an,[])]++aB) s'.M H3.O.an:=by
       show⟨g.bH _ 2e6,λq=>E (u.1.vC _ q),λq=>E (u.1.vD _ q),g.hK _ 2e6,λo e=>?_⟩;(show uB apD λo' es ep l hd c=>?_;try clear apD);have l:s'.M.ao H3.O.an=G o':=l;rw[e]at l;cases l;show⟨λc c q=>?_,λc c q=>?_,λc q=>?_,?_⟩
       ·rw[hd]at q;cases q
       ·rw[hd]at q;cases q
       ·rw[hd]at q;cases q
       ·exact tK hd
      have e:J++i++[(h2.O.an,[])]++aB=J++(i++[(h2.O.an,[])]++aB):=by simp only[D.eO]
      show apA.2 (i++[(h2.O.an,[])]++aB) _ (_,_) (e▸R6) apy ⟨.Z _ (h2.O.an,[]) ?_,⟨m',apD⟩,e▸aqj,uh (s:=(375 H3 t)) C 11e7⟩;rw[<-e,D.kO (by rw[<-n.cR];simp),<-n.cR,28e5,I.jj];rfl
  exact aco gj (ahl (x:=ng x cs sc H3.O.an) apu.Cw gj)
def ahq{c h:PySem.aZ}{q:10e4}{it:apw}{i:PySem.aZ}{aT:dz}{F:MS}{rl:It->I->MS->2e9}(apC:ul cs sc m)(B:sc.bp.bY 34e1≠12e3)(W:PI ih d sc h it)(hs:∀ab x,u6 h ab x=b8 x)
  (hl:∀vs j aR,oP vs m=true->JE d (p9 cs sc) (132 c i h q cs) vs 0 j aR (rl vs j aR)):
  43 (132 c i h q cs) (yI ih m it rl F):=by
 intro x J s Q EE Y t R P;show 23 (arm_eval_ListComp ..);dsimp only;have S:=MK (br:=cs) (ab:=x.ab) λp apq f=>Y.vx p.1 (by
  obtain⟨n,k⟩:=p
  dsimp only at f
  subst f
  have:=apC.eG n apq
  unfold ez.dA
  rw[t];exact a9)
 have apE:∀app∈cs.bp,app.2= .cU->cs.bp.bY app.1=12e3:=λapp apD e=>by
  obtain⟨n,k⟩:=app;dsimp only at e;subst e;exact MN apC.nd apD
 show acq (g:=⟨i,h,q,0⟩) (gs:=[]) H (λv=>hs x.ab v) S apC.d8 apE ?_;show Uy (Q:=λp s'=>∃m,s'.M.Ns p.2 m/\∀h',ai.fy p.2 s'.M h'->Q p.1 {s' with M:=h'}) apC B W hl Y t R ?_;generalize yI ih m it rl F=r at P⊢;cases r with
 |no=>exact P.ak
 |a7=>exact P
 |aS v bQ ob=>
  show⟨P.1,λaB s' u o apA r=>?_⟩;(show lG r λr C b z=>?_;obtain⟨m',hm⟩:=C);show⟨m',hm,λh' l=>?_⟩;have b:∀a∈ [u.2],o3 x (J++aB) s'.M a:=λa w=>by rw[D.cY.mp w];exact b
  have V:=apA.hO (wr:=[u.2]) (λa w=>by rw[D.cY.mp w];exact z) (nf l);exact P.2 aB _ _ (o.hO b (nf l) s'.a0) V (dN (o.MT b (nf l)) r)
universe e
section
variable{x:Fx}{J:aV}{F:MS}{s:ae}{Q:af->ae->Prop}{EE:af->ae->Prop}
def MX(R:0e9)(r:151 a aO)(b:cw J s.M l aO)(p:43e4)(P:187 (.y l.U t)):
  321 "len" [2e2]:=by
 have h:=iw b;have e:(((bO.mk aO).an:I):K)=(l.U:K):=by rw[<-h];rfl
 show call_len_list r (by rw[e];lia) ?_;rw[e];exact 50e1
def int_bool(R:0e9)(P:187 (.y (if b then 1 else 0) t)):97 (aW (.aA "int") [.bo b]):=
 call_int_bool 50e1
def bytes_list(Y:3e6)(R:0e9)(e:151 a aO)(h:cw J s.M l aO)(w:43e4)(b:lP l=G ns)(hr:ns.dI (291 (i<256))=true)
  (P:187 (.cg (ns.aj λi=>48e1))):97 (aW 27e0 [2e2]):=by
 have apy:=K9 b h;have v:=iw h;show call_bytes_ints (vs:=aO) e apy (λn m=>?_) (by rw[f0];lia) Y.e8 λh' t k r=>?_
 ·have:=D.ib.mp hr n m;simpa using a9
 ·have E:=R.jw r k;have p:byteArr ns=⟨ns.aj λi=>48e1⟩:=H;rw[p];show P.bj E.1 E.2 (.cg _ _ ?_);rw[D.fq,<-apy.U];lia
def tuple_list(R:0e9)(k:151 a aO)(r:cw J s.M l aO)(m:43e4)(P:187 (.X l)):
  97 (aW 26e5 [2e2]):=by
 have n:=iw r;show call_tuple_list k (λh' p=>?_) (364 aO.U);have h:∀b o,8e8=0e4->(h'.b5 (307 32e6)).ao b=0e4:=λb o e=>86 (p b o e);have E:=R.jw h s.a0;exact P.bj E.1 E.2 (.X l _ aO ⟨_,10e0,H,_,H⟩ m (hM (jc h) r))
def Uz(R:0e9)(e:4e4=15e1)(p:106 b.U)(P:187 (2 b.U)):321 "len" [2e2]:=by
 have h:47e7 :=(51 e);show PyProof.Rows.call_len_slot (n:=(b.U:K)) h BA.JG (λk r=>nw BA.JG h BA.entry_len ?_ (BA.abI _)) (by exact K.not_ofNat_neg b.U) bM 50e1;refine aX _ _ (dK.w3 2e2>>=_) _ _ s;exact bf (uS e (bf (wpAny_mkInt (bW ⟨_,H,r⟩))))
universe e
def MY:83 [a]->∃u,us=[u]/\145 a:=by
 intro r;cases r with|aP r q=>cases q;exact⟨_,H,r⟩
def ahr:83 [a,b]->∃u v,us=[u,v]/\145 a/\RV J h b v:=by
 intro r;cases r with
 |aP r q=>
 (show aM (MY q) λv s x=>?_;subst s);clear q;exact⟨_,_,H,r,x⟩
section
variable{x:Fx}{J:aV}{F:MS}{s:ae}{Q:af->ae->Prop}{EE:af->ae->Prop}{d:I}{h':ai}
def vS(R:0e9)(r:17 a u)(h:lR a F=G l):∃apr aO,u= .N apr/\151 apr aO/\cw J s.M l aO/\l.U<=16777216:=by
 cases r with
 |ad m t apr aO e no k b=>cases aq.G.cE h;exact⟨apr,aO,H,e,b,k⟩
 |Z i p v=>
  show aM (aq.k7.mp h) λo e h=>?_;show sN (aps.Rv h (42 _ e v)) λaO n b w k=>?_;exact⟨_,aO,H,n.iG,b,k⟩
 |_=>exact nN h
def ahs:∀{a b:D K},a.qv b->a.tr (· <= ·)->b.tr (· <= ·)->a=b:=λp h1 h2=>D.qv.eq_of_pairwise (le:=(· <= ·)) (λa b s s x app=>K.le_antisymm x app) h1 h2 p
def UA(a b:K)(l:D K):vg a (b::l)=if a<=b then a::b::l else b::vg a l:=H
def MZ(a:K):∀l,(vg a l).qv (a::l)
 | []=>D.qv.b7 _
 |b::l=>by
  rw[UA];split
  ·exact D.qv.b7 _
  ·exact((MZ a l).aP b).aU (D.qv.swap a b l)
def aht(a:K)(l:D K):l.tr (· <= ·)->(vg a l).tr (· <= ·):=by
 induction l with
 |aQ=>exact λr=>D.pairwise_singleton ..
 |aP b l e=>
  intro h;show oA (D.L8.mp h) λh1 h2=>?_;rw[UA];by_cases x:a<=b
  ·rw[eX x];show D.L8.bl ⟨λc s=>?_,h⟩;rcases D.eR.mp s with H|s
   ·exact x
   ·exact K.dV x (h1 c s)
  ·rw[d5 x];show D.L8.bl ⟨λc s=>?_,e h2⟩;rcases D.eR.mp ((MZ a l).mem_iff.mp s)with H|s
   ·exact K.le_of_not_le x
   ·exact h1 c s
def M0:∀l,(xz l).qv l
 | []=>D.qv.b7 _
 |a::l=>(MZ a _).aU ((M0 l).aP a)
def UB:∀l,(xz l).tr (· <= ·)
 | []=>D.tr.aQ
 |a::l=>aht a _ (UB l)
def ahu(r:tp us ns):83 (ns.aj λi=> .y i t):=by
 induction r with
 |aQ=>exact .aQ
 |aP n k r s=>exact .aP (.y n t k) s
def UC{b:4e9}:∀{us:2e4},us.U=b.U->(∀(i:I) v,us[i]? =2e5->∃c t,b[i]? =G c/\v= .y c.aI t)->83 (b.aj bA):=by
 induction b with
 |aQ=>intro us s _;rw[D.J6.mp s];exact .aQ
 |aP c b ih=>
  intro us s x;cases us with
  |aQ=>cases s
  |aP u us=>
   (show gd (x 0 u H) λr t e a=>?_;subst a);cases e;clear e;exact .aP (.y _ _ t) (ih (I.hH.cE s) λi v h=>x (i+1) v h)
def UD{l:5e6}:∀{ns:D K},lP (l.aj (·.1))=G ns->344 (nH p.1)=true:=by
 induction l with
 |aQ=>exact λs=>rfl
 |aP p l x=>
  intro ns h;obtain⟨k,v⟩:=p;rw[D.nW]at h;cases k<;>first|(cases h;done)|skip
  show aM (aq.ha.mp h) λa e s=>?_;rw[D.tc,x e];rfl
def UE(r:Bq J h l bK):lP (l.aj (·.1))=G (bK.aj (·.1)):=by
 induction r with
 |aQ=>rfl
 |aP r _ ih=>
  show oE r.1 λt e=>?_;rw[D.nW,e];exact bB (aq.aj (_:: ·)) ih
def ahv(R:0e9)(r:17 a u)(P:10 (Qs a F)):321 "len" [u]:=by
 induction r using RV.cD with
 |cg b tk h=>exact len_bytes (I.dV h ap) 50e1
 |X l apr aO k h v=>
  have w:=iw v;have e:(((bO.mk aO).an:I):K)=((aO.U:I):K):=H;rw[w]at e;show len_tuple k (by rw[e];lia) ?_;rw[e];exact 50e1
 |ad l t apr aO e no h v=>exact MX R e v h P
 |eh b a e no h=>exact Uz R e h P
 |Z i p m=>
  show eD P λob e P=>?_;cases ob with
  |ay l t=>
   show gp (42 _ e m) λq h aO k n=>?_;exact MX R k.iG n h P
  |au l=>
   show gp (42 _ e m) λq h aO k n=>?_;exact MX (l:=l.er) (t:=true) R k.iG n (409 h) (409 P)
  |eF b=>exact Uz R (42 _ e m).2.2 (42 _ e m).2.1 P
  |_=>exact P.ak
 |_=>exact P.ak
def ahw(e:Kh a F=G l):∃l',AT F a=G l'/\l=l'.aj (·.1):=by
 cases a with
 |Z i=>
  show aM 31e1 λl' h e=>?_;exact⟨l',h,e.bh⟩
 |_=>exact 19e2
def ahx(Y:3e6)(R:0e9)(r:17 a u)(e1:Kh a F=G l)(e2:lP l=G ns)(e:ns.U<64)(P:187 (8 ((xz ns).aj λi=> 6e5))):
  321 "sorted" [u]:=by
 (show aM (ahw e1) λl' v h=>?_;subst h)
 ·(show jA (x7 (ye R v r) (UD e2)) λa bK h n1 dd q=>?_;subst h);clear r e1;have b:=UE q;rw[e2]at b;clear e2;cases b;show oE dd.M1 λep m=>?_;show acD Y.e8 m n1 (by rw[D.fq]at e;exact e) λh' tk apr bH lf k n p w j a3=>?_;have e3:lf=xz (bK.aj (·.1)):=ahs (j.aU (M0 _).bh) a3 (UB _);have o:=(M0 (bK.aj (·.1))).length_eq;exact BS (us:=bH.f3) R k (by simpa using n.iG) p (by rw[D.fq];lia) (ahu (e3▸w)) P tk
def ahy(Y:3e6)(R:0e9)(p:169 as)(P:10 (AX fz n as F)):321 n us:=by
 show kQ P (λh P=>?_) λw P=>kQ P (λh P=>?_) λw P=>kQ P (λh P=>?_) λw P=>kQ P (λh P=>?_) λw P=>kQ P (λh P=>?_) λw P=>P.ak;all_goals rw[jv h]
 ·exact lz p P λa u r P=>ahv R r P
 ·exact lz p P λa u r P=>eD P λl e P=>by
   show aM 36e4 λl e1 e2=>?_;(show jA (vS R r e1) λapr aO f m p z=>?_;subst f);show sum_list Y.e8 m (K9 e2 p) λh' tk t' c=>?_;have E:=R.jw c tk;exact P.bj E.1 E.2 (.y ..)
 ·show gC_ p P λa V as us r p P=>lz p P λb apA app P=>m7 r P λi t tk P=>m7 app P λj u apq P=>max_two_ints Y.e8 λh' k c=>?_;have E:=R.jw c k;by_cases q:j>i
  ·rw[show jo i j=j by lia]at P;rw[eX q];exact P.bj E.1 E.2 (.y ..)
  ·rw[show jo i j=i by lia]at P;rw[d5 q];exact P.bj E.1 E.2 (.y ..)
 ·show lz p P λa u r P=>eD P λl e P=>?_;(show jA (vS R r e) λapr aO f m p z=>?_;subst f);show BN (C:=λw aO=>151 apr aO->321 "all" [.N apr]) p P (λP m=>?_) m;have S:apr<s.M.O.an:=by(show aM m λo e w=>?_;try clear m);exact 9e1
  show call_all_walk (AJ m ⟨s.M.O.an,_,_,_,_,_,λw=>true,H,J4.ay (A:=x.A.fg) Y.e8 s.M.O.an apr (I.ip S) ⟨[]⟩,⟨⟨_,10e0,H,H⟩,m.at λo e=>33e3⟩,?_,λh' tk c=>?_⟩)
  ·intro i v _ _ _ h;simp at h
  ·have E:=R.jw (λb o e=>c b o (λhm=>bL 9e1 (419 (D.cY.mp hm))) 33e3) tk;exact P.bj E.1 E.2 (.bo ..)
 ·exact lz p P λa u r P=>eD P λns e P=>fU P λg P=>fU P λhz P=>by
   show aM 36e4 λl e1 e2=>?_;exact ahx Y R r e1 e2 (I.si.mp g) P
universe e
section
variable{x:Fx}{J:aV}{F:MS}{s:ae}{Q:af->ae->Prop}{EE:af->ae->Prop}{d:I}
def ahz:(af.iQ b tk)= .iQ ⟨b.f3⟩ tk:=H
def ahA(Y:3e6)(R:0e9)(r:17 a u)(e:vf a F=G l)(P:187 (6 l)):25 (aW 19e6 [u]):=by
 induction r using RV.cD with
 |cg b tk m=>
  cases aq.G.cE e;show aL.of (list_bytes Y.e8 m λh' k cO q n f h=>?_);have w:cO.f3.U=b.U:=by rw[bO.J7];exact h.1
  show BS (us:=cO.f3) R n ⟨_,f,H,q,H⟩ 52e0 (by rw[D.fq];exact m) (UC w λi v j=>?_) P k;show gd (h.2 i v (by rw[<-bO.Qe];exact j)) λc u h1 h2=>?_;exact⟨c,u,by simpa using h1,h2⟩
 |Z i p z=>
  show aM 36e4 λo app e=>?_;cases o with
  |eF b=>
   cases aq.G.cE e;show hT (42 _ app z) λg m t=>?_;show aL.of (acz Y.e8 t m λh' k cO q n f h=>?_);have w:cO.f3.U=b.U:=by rw[bO.J7];exact h.1
   show BS (us:=cO.f3) R n ⟨_,f,H,q,H⟩ 52e0 (by rw[D.fq];exact m) (UC w λi v j=>?_) P k;exact h.2 i v (by rw[<-bO.Qe];exact j)
  |_=>exact 19e2
 |_=>cases e
def UF(Y:3e6)(R:0e9)(p:169 as)(P:10 (vh fz n as F)):25 (aW (.aA n) us):=by
 show kQ P (λh P=>?_) λw P=>kQ P (λh P=>?_) λw P=>kQ P (λh P=>?_) λw P=>kQ P (λh P=>?_) λw P=>kQ P (λh P=>?_) λw P=>P.ak;all_goals rw[jv h]
 ·show lz p P λa u r P=>?_;cases e:lR a F with
  |G l=>
   rw[e]at P;show oA (sj P) λhz P=>?_;(show jA (vS R r e) λapr aO j v p c=>?_;subst j);have S:=iw p;(show gD v λo app g k hd=>?_;try clear v);show aL.of (call_list_seq apr 2e6 app g hd (λh' z f q=>?_) (364 aO.U));exact R0 R f p ⟨z,q⟩ hz P s.a0
  |L=>rw[e]at P;exact eD P λl q P=>fU P λhz P=>ahA Y R r q P
 ·exact lz p P λa u r P=>eD P λl e P=>by
   (show jA (vS R r e) λapr aO j v p c=>?_;subst j);exact aL.of (tuple_list R v p c P)
 ·show lz p P λa u r P=>?_;have hO:10 (gN ((lR a F).cq lP) 52 λl=>(oN (l.dI (291 (i<256))) true F).aE λw F=> 7 (.cg (264 48e1)))->25 (aW 27e0 [u]):=λP=>eD P λns e P=>by
   show aM 36e4 λl e1 e2=>?_;(show jA (vS R r e1) λapr aO j v p c=>?_;subst j);show oA (tW P) λm P=>?_;exact aL.of (bytes_list Y R v p c e2 m P)
  induction r using RV.cD with
  |y n t tk=>
   show oA (tW P) λm P=>?_;have m:=fo m;show aL.of (acI m.1 m.2 λt k=>?_);rw[ahz];show P.jS R k ?_;rw[bO.toList_replicate];exact .cg _ _ (by rw[D.Cy];lia)
  |_=>exact hO P
 ·show lz p P λa u r P=>m7 r P λn t tk P=>?_;show oA (tW P) λm P=>?_;have m:=fo m;show PK (b:=287 0) Y.j5 (.a2 ⟨n,tk,H,m.1,m.2,H⟩) λh' q f hz=>?_;exact R.BR f (by exact ai.cP q) P s.a0 λw=>⟨H,by rw[D.Cy];lia,q⟩
 ·show lz p P λa u r P=>?_;induction r using RV.cD with
  |bo=>exact aL.of (int_bool R P)
  |_=>exact P.ak
universe e
def ahB(h:∀f as F,JC d f as F (rQ ih f as F))(a:∀f as F (J:aV) (s:ae) (Q:0e5) (EE:0e5),0e9->10 (rQ ih f as F)->kT F f):qX ih fz d x:=by
 intro f as F J s u us Q EE Y R rf e P;have go:10 (rQ ih f as F)->_:=λP=>i3.nq (a f as F J s Q EE R P) (h f as F x J s u us Q EE Y R rf e P);cases rf with
 |aa u=>cases u with
  |bI=>exact⟨dZ,aL.of (ahy Y R e P)⟩
  |aA=>exact⟨dZ,UF Y R e P⟩
  |_=>exact go P
 |_=>exact go P
section
variable{bb:gR}{w:eA}{A:df}{E:af->ae->Prop}{s:ae}
def ahC{S apr:aH}{us vs:2e4}{Q:0e5}(r:s.M.j8 S 29e5)(a:151 apr vs)(hz:us.U+vs.U<=16777216)
  (h:∀h',h'.j8 S ⟨us++vs⟩->166 S h'->157 .L):41 (260 "list.extend" [.N S,.N apr]):=by
 show oE (id r) λn e=>?_;(show gD a λo b p k hd=>?_;try clear a);show nw PySem.apu.afZ (51 e) PySem.apu.entry_list_extend ?_ (PySem.apu.args_list_extend_2 _ _);refine aX _ _ (Builtin.D.u8 (.N S) (.N apr) .L) _ _ s;unfold Builtin.D.u8;show cK (tf ⟨o,b,p⟩ λx=>?_);show pa (by simp) <|?_;show cK (ahD b hd λx=>?_);show cK (ahD e H λx=>?_);have m:¬(!(bO.mk us).jL&&Builtin.D.Lo ((188 us)+(188 vs)))=true:=extend_door (by rw[f0];exact hz);show sP m λx x=>?_;show bf (listUpdate_at e H ?_ (by rw[f0];refine us.U<=_;exact I.Rq hz) (by rw[bO.size_append,f0];refine us.U+vs.U<=_;exact I.le_add_right_of_le hz));show bW ⟨_,H,h _ ?_ (ai.fy.eM ..)⟩;have:=Ml r (· ++(bO.mk vs));simpa using a9
universe e
section
variable{α:Type}[qN α]
def ahE{bK:D (α×af)}{v:af}(x:(bK.aj (·.1)).dS):((yz bK k v).aj (·.1)).dS:=by
 unfold yz;split
 ·rw[D.rB];have:(bK.aj ((·.1)∘λs=>if s.1=k then(s.1,v)else s))=bK.aj (·.1):=D.yA λp w=>by
   refine(if p.1=k then(p.1,v)else p).1=p.1;split<;>rfl
  rw[a9];exact x
 ·rename_i h;rw[D.sz,D.RZ];show⟨x,by simp,λa m b r e=>?_⟩;subst e;simp only[D.nW,D.map_nil,D.cY]at r;subst r;show aM (D.sp.mp m) λp n e=>?_;exact h (D.p7.bl ⟨p,n,by simp[e]⟩)
universe e
def UG{apv:Type}[qN apv]{f:38e8}(n:∀{a b k x},f a k->f b x->mZ k x=bJ (a=b)){m:5e6}{aB:31e8}{l:5e6}{bK:31e8}(apz:RK f J h m aB):RK f J h l bK->(bK.aj (·.1)).dS->RK f J h 46e1 (merged bK aB):=by
 induction apz generalizing l bK with
 |aQ=>exact λr w=>r
 |aP a v e=>exact λr s=>e (TJ n a.1 a.2 r s) (ahE s)
section
variable{x:Fx}{J:aV}{F:MS}{s:ae}{Q:af->ae->Prop}{EE:af->ae->Prop}{d:I}
def aJ.M1(R:0e9){k:I}{l:5e6}{p:9e4}(n:F.O[k]? =G (.bv l))(m:J[k]? =5e1):nD x J s.M 7e2 l/\p.2=[]/\∀q,s.M.ao p.1=G q->iu q=false:=by
 show gp (42 k n m) λq v b e z=>?_;have a:b.yn/\∃es ep,b.be= .bv es ep:=by rcases z with⟨_,⟨es,ep,a,hd,_⟩,_⟩|⟨_,⟨es,ep,a,hd,_⟩,_⟩<;>exact⟨a,es,ep,hd⟩
 show⟨⟨p.1,H,?_,z.f5 ((by intro h;(show aM h λbK d r=>?_;try clear h);exact⟨bK,377 b e d,r⟩)) (by intro h;(show aM h λbK d r=>?_;try clear h);exact⟨bK,377 b e d,r⟩)⟩,q,TL e a.1 a.2⟩;have h1:=R.gy p.1 ⟨p,D.ja m,D.dP ..⟩;show sd.bl λq=>?_;rw[q]at h1;exact bL h1 ap
def ahF(r:Br J h l bK):344 (rM p.1)=true:=by
 induction r with
 |aQ=>rfl
 |aP r _ ih=>rw[D.tc,ih,show _=_ from r.1];rfl
def UH(m:5e6):∀l:5e6,(46e1).U<=l.U+m.U:=by
 induction m with
 |aQ=>intro l;exact 11e7
 |aP p m ih=>
  intro l;have h1:=ih (iS l p.1 p.2);have h2:=TK p.1 p.2 l;simp only[D.MI,D.m6];lia
def UI{i:I}{p:9e4}{l m:0e0}{v:V}{u:af}(R:0e9)(q:J[i]? =5e1)(d:p.2=[]){us:2e4}(h:s.M.j8 p.1 29e5)(a:169 l)(r:15e7)(e:lR v F=G m)(hz:l.U+m.U<=16777216)
  (oV:∀{h':ai} {b:2e4},h'.j8 p.1 20e6->cw J h' (l++m) b->RO x.w J h' p o') (P:10 (276 o')):321 "list.extend" [7e2,u]:=by
 (show jA (vS R r e) λapr aO o w n hm=>?_;subst o);clear r;have h1:=iw a;have h2:=iw n;show ahC h w bM λh' j c=>?_;have apA:=R.m9 (o':=o') q (D.dP ..) c (tX h.iG) (λk=>oV j (.lV (hM k a) (hM k n))) s.a0;exact 266 14e9
def ahG{i j:I}{p q:9e4}{l m:5e6}(R:0e9)(d:J[i]? =5e1)(apE:18e7=G (.bv l))(S:J[j]? =G q)(t:F.dL j=G (.bv m))(hs:l.U+m.U<=900)(apr:i≠j)(c3:m.dI (λp=>nI l p.1)=true)(c4:m.dI (λp=>nI m p.1)=true)
  (P:10 (276 (.bv 46e1))):411 [7e2,.N q.1]:=by
 have A:p.1≠q.1:=λe=>apr (R.sg d S (D.dP ..) (e▸D.dP ..));show hT (R.M1 apE d) λv B W=>?_;have u:=(R.M1 t S).1;have fl:=UH m l;have go:∀{apv:Type} [qN apv] {gY:x6 pw x.w apv} {f:38e8} (g:∀{a b k app},f a k->f b app->mZ k app=bJ (a=b)) {k1 k2:31e8},s.M.qO gY p.1 k1->RK f J s.M l k1->s.M.qO gY q.1 k2->RK f J s.M m k2->(q.1==tq)=false->
   (∀{h'} {o:az},(∃bK,o.qK gY bK/\RK f J h' 46e1 bK)->DK x.w J h' o 46e1)->411 [7e2,.N q.1]:=by
  intro apv _ gY f g k1 k2 d1 r1 n r2 h fV;show call_meetsIn PySem.apu.af0 d1.mX PySem.apu.entry_dict_update (PySem.apu.args_dict_update_2 _ _) (meets_dict_update gY p.1 q.1 A h) ⟨k1,k2,d1,n,by rw[f0,r1.cR,r2.cR];lia,λh' hm c hs=>?_⟩;have apA:=338 (.bv 46e1) d hs W ⟨B,bM,(ai.lX.mp hm).f5 λo' w=>⟨w.1,fV ⟨_,w.2,UG g (tN k r2) (tN k r1) (Rw d1)⟩⟩⟩ s.a0;exact 266 14e9
 have apq:344 (nH p.1)=true->m.dI (λp=>nH p.1)=true->411 [7e2,.N q.1]:=by
  intro h1 h2;show jA (x7 v h1) λC k1 e1 n1 d1 r1=>?_;show jA (x7 u h2) λapD k2 e2 h n r2=>?_;cases e1;cases e2;exact go BH d1 r1 n r2 h .a2
 have z:344 (rM p.1)=true->m.dI (λp=>rM p.1)=true->411 [7e2,.N q.1]:=by
  intro h1 h2;show jA (BJ v h1) λC k1 e1 n1 d1 r1=>?_;clear n1;show jA (BJ u h2) λapD k2 e2 h n r2=>?_;cases e1;cases e2;exact go BI d1 r1 n r2 h .aD
 clear P go u fl hs t;cases m with
 |aQ=>
  (show dU v λc c c apw=>?_;try clear v;obtain(⟨_,_,r⟩|⟨_,_,r⟩):=apw)
  ·exact apq (UD (UE r)) H
  ·exact z (ahF r) H
 |aP pk m'=>
  rw[D.tc]at c3 c4;have c3:=(ba c3).1;have c4:=(ba c4).1;obtain⟨pk,E⟩:=pk;cases pk with
  |y=>exact apq c3 c4
  |ag=>exact z c3 c4
  |_=>cases c3
def ahH(x:Fx):Ty x:=by
 intro i p o n id as F J s us Q EE d Y R w z c f P;have app:∀{a b:I},I.bX a b=true->a=b:=I.fZ;cases o with
 |ay l t=>
  show kQ P (λh P=>?_) λg P=>kQ P (λh P=>?_) λg P=>fU P λh P=>?_
  ·cases app h;cases c;exact lz f P λv u r P=>aL.of (Lx R w z r P)
  ·cases app h;cases c;show lz f P λv u r P=>eD P λm e P=>?_;show oA (sj P) λhz P=>?_;show gp (42 i z w) λq apw aO S V=>?_;exact aL.of (UI (o':= .ay (l++m) _) R w q S V r e (by rw[D.hN]at hz;exact hz) (λapq W=>⟨q,hz,_,apq,W⟩) P)
  ·cases app h;cases c;show BN f P λP=>?_;cases e:l.er with
   |aQ=>rw[e]at P;exact P.ak
   |aP v r=>rw[e]at P;exact aL.of (aeP R w z e P)
 |au l=>
  show kQ P (λh P=>?_) λg P=>kQ P (λh P=>?_) λg P=>fU P λh P=>?_
  ·cases app h;cases c;exact lz f P λv u r P=>aL.of (aeI R w z r P)
  ·cases app h;cases c;show lz f P λv u r P=>eD P λm e P=>?_;show oA (sj P) λhz P=>?_;show gp (42 i z w) λq apw aO S V=>?_;show aL.of (UI (l:=l.er) (o':= .au (m.er++l)) R w q S V r e (by rw[D.hN,D.lx]at hz;rw[D.lx];lia) (λapq W=>⟨q,hz,_,apq,?_⟩) P);rw[D.reverse_append,D.Sn];exact W
  ·cases app h;cases c;show BN f P λP=>?_;cases l with
   |aQ=>exact P.ak
   |aP=>exact aL.of (aeN R w z P)
 |bv l=>
  show fU P λh P=>?_;cases app h;cases c;show lz f P λv u r P=>?_;induction r using RV.cD with
  |Z j q apD=>
   show eD P λob A P=>?_;cases ob with
   |bv m=>exact fU P λc1 P=>fU P λc2 P=>fU P λc3 P=>fU P λc4 P=>aL.of (ahG R w z apD A (I.cy c1) (λe=>by subst e;rw[I.qI]at c2;cases c2) c3 c4 P)
   |_=>exact P.ak
  |_=>exact P.ak
 |eF b=>
  show fU P λh P=>?_;cases app h;cases c;clear c;show lz f P λv u r P=>?_;induction r using RV.cD with
  |cg m tk hm=>
   have P:10 ((gu (b.U+m.U) true F).aE λg F=> 276 (.eF (b++m))):=P;show oA (sj P) λhz P=>?_;show hT (42 i z w) λq apw e=>?_;show acH Y.j5 e hz λh' apE hs=>?_;have apA:=338 (.eF (b++m)) w hs (λB e2=>by rw[e]at e2;cases e2;rfl) ⟨q,by rw[D.hN];exact hz,apE⟩ s.a0;exact 266 14e9
  |_=>exact P.ak
 |_=>exact P.ak
universe e
universe e
section
open PySem PySem.W PyProof.Rows PySem.Calls PySem.Spec PySem.SeqAt
open Builtin hiding id
open Builtin.ObjectAttr Builtin.Getset_descriptor
set_option backward.match.sparseCases false
abbrev yJ:2e4:=[22e7,22e5,6e9]
abbrev km(C t:aH):az:=(336 2e8 #[.N t,.L,.L,.L,33e8,.L])
inductive ahI (C:aH) (h:ai):Prop
 |mk (nm q:am) (apC:aH) (bs bm a1:D af) (k0 k1 k2 k3 k5:aq af) (hC:h.ao C=G (um nm q C apC bs bm true [] a1 false L L k0 k1 k2 k3 k5 "Exception.__new__")) (aqU:(af.N C::bm).hU (.aA "Exception")=true)
  (aqV:(af.N C::bm).hU (.aA "object")=true) (aqW:(af.N C::bm).hU (.aA "AttributeError")=false) (aqX:(af.N C::bm).hU (.aA "NameError")=false) (pass:∀oz,refuseLoop oz "__setattr__" (.N C::bm)=b8 ()) (hm:bm=yJ\/bm= .N 38::yJ)
structure sA(C:aH)(h:ai):Prop where
 Z:ahI C h
 aB:∀oc od cd sl,h.ao C=G ⟨oc,od,.bi cd,sl⟩->cd.qs.hU (.aA "BaseException")=true/\cd.qs.hU (.aA "type")=false/\∀a,a≠38->cd.qs.hU (.N a)=I.bX a C
section
variable{bb:gR}{w:eA}{A:df}{E:af->ae->Prop}{s:ae}{C:aH}
def mE{α:Type}{C:20e2}{a:α}{l:8e4}(h:C a)(s:∀q∈l,C q):∀q∈a::l,C q:=λq x=>(D.eR.mp x).ak (λe=>e▸h) (s q)
def mN{α:Type}{C:20e2}:∀q∈([]:8e4),C q:=λs h=>bL h D.mn
def yK{p:Prop}(h:p):∀q∈D.gi n p,q:=λq m=>(D.ahJ m)▸h
def ahK{Q₁:0e5}(apv:sA C s.M)(h:Q₁ 24e0 {s with M:=(331 u).b5 49e3}):
  uV 6e2 A (.aW 41e4 (61 [2e8,u])) (uW Q₁ E) s:=by
 rcases apv.Z with⟨nm,q,apC,e,bm,a1,k0,k1,k2,k3,k5,x,_,_,_,_,_,hm⟩;clear apv;show codeAny_call_builtin_code (fQ.Pz _ PySem.apu.M2.sR) (sU (v:=()) (s':=s) (ps:=D.gi 7 (s.M.ao C=G _)) (D.gi 7 (um nm q C apC e bm true [] a1 false L L k0 k1 k2 k3 k5 "Exception.__new__")) (by rcases hm with h|h<;>subst h<;>kernel_rfl) (yK x) ?_);show PySem.codeAny_builtinAt PySem.apu.M2.entry ?_;unfold Builtin.«BaseException.__new__»;show PySem.wpAt_bind (PySem.wpAt_bind (PySem.wpAt_stack λp uD=>PySem.ahL (sU (v:= "Exception") (ps:=D.gi 0 ku) (s':=s) [] ar (yK dZ) (PySem.ahL ?_))));show sU (v:= .kx (.bj (.N (331 u).O.an))) (s':={s with M:=(331 u).b5 49e3})
  (ps:=D.gi 9 (s.M.ao C=G _)++D.gi 1 (((331 u).b5 49e3).ao C=G _)) (D.gi 10 (um nm q C apC e bm true [] a1 false L L k0 k1 k2 k3 k5 "Exception.__new__")) (by rcases hm with h|h<;>subst h<;>kernel_rfl) (λq m=>(300 m) (yK x q) (yK (340 x) q)) ?_
 rw[ai.iM];exact h
def ahM{e t:aH}{u:af}{Q:0e5}(apv:sA C s.M)(a:37e0=G (km C t))
  (h:∀h',(∀b o,b≠e->8e8=0e4->11e8=0e4)->(∃t,42e8=G (km C t))->157 .L):41 (260 "Exception.__init__" [9e7,u]):=by
 rcases apv.Z with⟨nm,q,apC,p,bm,a1,k0,k1,k2,k3,k5,r,_,_,_,_,_,hm⟩;clear apv;show JP (UJ PySem.apu.M2.jI.th PySem.apu.M2.initEntry ?_);show sU (v:=()) (s':=s) (ps:=[37e0=G _,s.M.ao C=G _,37e0=G _,s.M.ao C=G _]) [km C t,um nm q C apC p bm true [] a1 false L L k0 k1 k2 k3 k5 "Exception.__new__",km C t,um nm q C apC p bm true [] a1 false L L k0 k1 k2 k3 k5 "Exception.__new__"]
  (by rcases hm with h|h<;>subst h<;>kernel_rfl) (mE a (237 r a (mE r mN))) ?_
 show sU (v:= .kx (.bj .L)) (s':={s with M:=(331 u).eM e (az.t6 λx=>x.pV 0 9e9)})
  (ps:=D.gi 3 ((331 u).ao e=G _)) (D.gi 3 (km C t)) ar (yK (86 a)) ?_
 show h _ (λb o k m=>?_) ⟨s.M.O.an,258 (86 a) H⟩;rw[ai.t7 _ _ _ _ k];exact 86 m
universe e
section
abbrev vT(s:ai)(e:aH):ai:=(s.b5 52e4).eM e λo=>{o with bv:=G s.O.an}
def ahN{x:Fx}{s:ae}{A:df}{E:0e5}{C e t:aH}{n:I}{u:af}{Q:17e3}(apv:sA C s.M)(apw:dQ.In 36e5 s.M)(p:37e0=G (km C t))
  (sa:iH 36e5 2e8 "__setattr__" =G 55e4) (hn:iH 36e5 2e8 4e6=G L)
  (h:∀h' i k hs tk m',(∀b o,b≠e->8e8=0e4->11e8=0e4)->i=s.M.O.an->42e8=G ⟨2e8,G i,.cn #[.N t,.L,.L,.L,33e8,.L],#[]⟩->
   h'.ao i=G (hJ [⟨hs,140 tk,u⟩] m')->156 () k):aX 3e0 A (Tq 9e7 4e6 u) Q E s:=by
 obtain(⟨V,q,apC,z,bm,a1,k0,k1,k2,k3,k5,m,W,apA,_,_,R,_⟩):=apv.Z;clear apv;have apy:L4 s.M e (km C t) C L:=⟨p,H,H,dZ⟩;show set_plain apw apy sa ?_;obtain(⟨a,g,d,tk,os⟩):=s;have r:=PySem.apu.store_object;have hm:171 a (Ax 2e8) (2e8::bm):=λA Q E s' k q=>by
  obtain(⟨a,g,d,tk,os⟩):=s';exact ahO (k C _ m) q
 have apq:171 a (st 9e7 6e9) true:=apy.aA.iX λA Q E s' k q=>by
  obtain(⟨a,g,d,tk,os⟩):=s';show UK (k C _ m) ?_;rw[apA];exact q
 have app:171 a (pW 9e7) 2e8:=apy.aA;show UJ r.slot.th r.entry (@Td 3e0 _ _ ⟨a,g,d,tk+1,os⟩ "object.__setattr__" "object" "__setattr__" 9e7 [140 tk,u] [] _ r.d8 r.split apq (r.pj 9e7 (140 tk) u) ?_);rw[osa_eq,PySem.refuse_eq];show 167 (app.at (bf (hm.at ?_)));rw[R];show 293 (app.at (bf ((Cd apw hn).at (bf 20e3))));refine aX _ _ (afJ 9e7 2e8 (140 tk) 4e6 u false) _ _ _;have j:(a.b5 52e4).ao e=G (km C t):=86 p;have c:e≠a.O.an:=285 p;have S:(vT a e).ao e=G ⟨2e8,G a.O.an,.cn #[.N t,.L,.L,.L,33e8,.L],#[]⟩:=258 j H;have w:(vT a e).ao a.O.an=G (hJ [] 0):=(ai.t7 _ _ _ _ (Ne.bh c)).aU 10e0;have l:((vT a e).eM a.O.an (az.yu 4e6 42e0 (140 (tk+1)) u)).ao a.O.an=G (hJ [⟨42e0,140 (tk+1),u⟩] 1):=258 w H;show sU (v:= .kx (.bj .L)) (s':=⟨(vT a e).eM a.O.an (az.yu 4e6 42e0 (140 (tk+1)) u),g,d,tk+2,os⟩)
  (ps:=[a.ao e=G _,a.ao C=G _,(a.b5 52e4).ao e=G _,(vT a e).ao a.O.an=G _,(vT a e).ao a.O.an=G _,ai.ao _ a.O.an=G _])
  [km C t,um V q C apC z bm true [] a1 false L L k0 k1 k2 k3 k5 "Exception.__new__",km C t,hJ [] 0,hJ [] 0,hJ [⟨42e0,140 (tk+1),u⟩] 1] ar (237 p m (237 j w (237 w l mN))) ?_
 show h _ _ _ _ _ _ (λb o P f=>?_) H ?_ l
 ·exact(ai.t7 _ _ _ _ (285 f)).aU ((ai.t7 _ _ _ _ P).aU (86 f))
 ·exact(ai.t7 _ _ _ _ c).aU S
universe e
universe e
section
open PySem PySem.W PyProof.Rows PySem.Calls PySem.Spec PySem.SeqAt
open Builtin hiding id
set_option backward.match.sparseCases false
structure un(C:aH):Prop where
 bi:∀(h:ai) P,g9 h (KL P)->sA C h
 L1:∀P,iH (KL P) (.N C) "__init__" =G (G (.N 35))
 fn:∀P,yq (KL P) (.N 35)=G (.aA "function")
 sa:∀P,iH (KL P) (.N C) "__setattr__" =G (G (.bI "object.__setattr__"))
 why:∀P,iH (KL P) (.N C) (nm 58)=G L
 cd:∀P,∃cd,t8 (KL P) C=G cd/\cd.ys=true
 gx:∀P,iH (KL P) (.N C) "__getattr__" =G L
 ga:∀P,iH (KL P) (.N C) "__getattribute__" =G (G (.bI "BaseException.__getattribute__"))
def Cz{α:Type}{apB:iz}{h:ai}{t:9e5}{r:α}(x:∀(A:df) (Q:14e6) (E:0e5) (e:ai) g d tk os,(∀b o,h.ao b=0e4->e.ao b=0e4)->Q r ⟨e,g,d,tk,os⟩->aX apB A t Q E ⟨e,g,d,tk,os⟩):e6 apB h t r:=
 λA Q E s k q=>by obtain(⟨e,g,d,tk,os⟩):=s;exact x A Q E e g d tk os k q
section
variable{x:Fx}{J aB:aV}{F:MS}{s:ae}{h0:ai}
def aJ.UL(R:0e9)(l:∀a∈dT p,¬14e2/\¬fr x a/\¬FA x a/\lr<=a)(P:∀a∈dT p,∃ob,4e4=G ob/\(∀xs n,ob.be≠ .cG xs n)/\∀b n,ob.be≠ .qp b n)
  (hc:∀k v c,(41e6=18e8\/41e6=23e5)->19 F.T=2e5->x.ab.b2.bY 5e5=G c->c∉24e3) (hn:(24e3).dS) (oV:f8 J (J++[p]) s.M s.M->RO x.w (J++[p]) s.M p o):165 J [p] ⟨F.O++[o],F.T,F.bE⟩ s:=by
 have j:∀a,68 (J++[p])->14e2\/a∈24e3:=λa h=>(jt.mp h).f5 id tV.mp;have app:∀a ob,4e4=G ob->((∃xs n,ob.be= .cG xs n)\/∃b n,ob.be= .qp b n)->¬14e2->¬68 (J++[p]):=λa ob e q no h=>(j a h).ak no λz=>by
  show dU (P a z) λapE g n1 W=>?_;rw[e]at g;cases g;rcases q with⟨xs,n,q⟩|⟨xs,n,q⟩
  ·exact n1 _ _ q
  ·exact W _ _ q
 have bR:f8 J (J++[p]) s.M s.M:=by
  show⟨λa aO e=>e,λa aO e no=>⟨e,?_⟩,λa b n e no=>⟨e,app a _ e 19e7 no⟩,λi q e=>⟨q,by rw[379 e];exact e,H⟩,λf f e=>e⟩;(show gD e λob t c n dd=>?_;try clear e);exact app a ob t (.a2 ⟨_,_,dd⟩) no
 show⟨R.d7,by simp[R.cR],λi apA q e1 e2=>?_,?_,λa w=>(j a w).ak (R.gy a) λz=>(l a z).2.2.2,λa w=>(j a w).ak (R.up a) λz=>(by show aM (P a z) λob e f=>?_;exact 9e1),⟨?_,λk v a b=>?_⟩,λa w h=>(j a h).ak (R.bH a w) λz=>(l a z).2.1 w,R.hK,R.b2,R.hj,R.gz,λa w=>⟨(120 w).1,λh=>(j a h).ak (120 w).2 λz=>(l a z).2.2.1 w⟩,R.dC,R.os,R.cV⟩
 ·by_cases d:i<F.O.U
  ·rw[D.kO d]at e1;rw[D.kO (R.cR▸d)]at e2;exact se bR (λa f o e=>e) (R.O i apA q e1 e2)
  ·have h1:=(116 e1);rw[D.hN,D.RY]at h1;have apw:i=F.O.U:=by exact I.aev h1 d
   clear h1;subst apw;rw[28e5,I.jj]at e1;rw[<-R.cR,28e5,I.jj]at e2;cases e1;cases e2;exact oV bR
 ·rw[D.aew,D.RZ];show⟨R.nd,by simpa using hn,λa w b apq e=>?_⟩;subst e;show aM (D.Lj.mp w) λq S V=>?_;exact(l a (by simpa using apq)).1 ⟨q,S,V⟩
 ·obtain⟨m,hm,apD⟩:=R.bp.iN;show(313 hm);show aM (apD k v a b) λu e r=>?_;exact⟨u,e,30e5⟩
 ·obtain(⟨c,u,e1,e2,r,no⟩):=200 k v b;show aM (id e2) λob t dd=>?_;exact⟨c,u,e1,e2,30e5,λh=>(j c h).ak no (hc k v c a b e1)⟩
def aJ.vU(R:0e9)(m:∀a∈dT p,o3 x J s.M a/\∃ob,4e4=G ob)(n:(24e3).dS)(q:f8 J (J++[p]) s.M s.M->RO x.w (J++[p]) s.M p o):165 J [p] ⟨F.O++[o],F.T,F.bE⟩ s:=
 R.UL (λa r=>⟨(m a r).1.d2,(m a r).1.fr,(m a r).1.fa,(m a r).1.jY⟩) (λa r=>(by show sM (m a r) λA ob e=>?_;exact⟨ob,e,(A.cn ob e).1,(A.cn ob e).2.1⟩)) (λk v c a b e h=>by
  obtain(⟨i,u,e1,⟨ob,w,dd⟩,_⟩):=200 k v b
  rw[e]at e1;cases e1
  exact((m c h).1.cn ob w).2.2.1 _ dd) n q
def Kp.vU(apv:56 J x h0 s.M)(e:∀a∈dT p,46e4=L):Kp J (aB++[p]) x h0 s.M:=
 ⟨apv.bR,apv.js,apv.iV,apv.g5,λa b=>(jt.mp b).ak (apv.fk a) λh=>e a (tV.mp h)⟩
universe e
def M3(hd:o.be= 27e1)(h:o.bi= 2e8):uf o:=by
 show⟨λs s e=>?_,λs s e=>?_,λs e=>?_,?_⟩
 ·rw[hd]at e;cases e
 ·rw[hd]at e;cases e
 ·rw[hd]at e;cases e
 ·unfold iu;rw[hd,h];rfl
def UM:uf (hJ es n):=⟨λs s e=>(nomatch e),λs s e=>(nomatch e),λs e=>(nomatch e),H⟩
def qa:Ih:=λtk F=>match tk with
 | .x (.l n)=>(mG F.T n 1000 F).aE λv F=> 7 (.v v)
 |_=> .no 0
def CA{n:I}{F:MS}:ci qa (.l n) F=mG F.T n 1000 F:=by
 unfold ci qa mG;dsimp only;cases lk F.T n<;>rfl
def CB{d:I}{id:am}{k:I}(s:hq id k=true)(h2:146 sc id=true):PX qa d sc (172 aT) (.l k):=λF=>by
 rw[CA];exact So s h2
def ahP{d:I}{e:cC}{id:am}{aT:dz}{k:I}{v:af}(p:hq id k=true)(h2:eu e id .ly=true)(m:19 gl=G (.aa v)){x:Fx}{J:aV}{F:MS}{s:ae}{Q:0e5}{EE:0e5}(Y:3e6)(n:x.ab.br=e)(R:0e9)
  (h:∀aB s',206 F->38e6->Q v s'):25 (233 (172 aT)):=by
 show yj (d:=d) (F:=F) (aT:=aT) p h2 x J s _ EE Y n R ?_;unfold mG;rw[m];show⟨λw h=>(nomatch h),λaB s' u b a r=>?_⟩;cases r;exact h aB s' b a
def ahQ:findCls [] 22e7 46e7 (nm 166)=G (.oR (.bI "Exception.__init__")):=ar
def ahR{x:Fx}{J:aV}{F:MS}{s:ae}{r:b4 al}{Q:af×2e4->ae->Prop}{EE:0e5}(R:0e9)(h:Q (.bI "Exception.__init__",[]) 42e1):97 (Md 22e7 (nm 166) r):=by
 obtain⟨m,hm,_⟩:=R.bp.iN;exact PySem.W.method_type (apv:=[]) (h₀:=nt) ⟨hm,λb o e=>19e2,32e0⟩ (λa o e=>19e2) H 9e2 ahQ H h
def ahS:D dz:=[⟨8,8,8,17⟩,⟨8,8,8,26⟩,⟨8,27,8,31⟩,⟨8,33,8,36⟩,⟨8,8,8,37⟩,⟨8,8,8,37⟩,⟨9,8,9,12⟩,⟨9,8,9,16⟩,⟨9,19,9,22⟩,⟨9,8,9,22⟩]
def fK(i:I):dz:=(ahS[i]?).ge ⟨0,0,0,0⟩
def M4(s:cC)(B:11e1):Prop:=B=[.aZ (.jR (.kM (190 165 0) (nm 166) (fK 1)) [190 164 2,190 58 3] [] (fK 4)) (fK 5),.pN [.kM (190 164 6) 20e5 (fK 7)] (190 58 8) (fK 9)]/\
 eu s (nm 165) .ly=true/\146 s (nm 164)=true/\146 s 20e5=true/\yC s (.kM (190 164 6) 20e5 (fK 7)) (190 58 8)=G L
def ahT{d:I}{x:Fx}{J:aV}{s:ae}{F:MS}{h0:ai}{C e t:aH}{v:V}{B:11e1}{E:cC}{Q:34e8}{EE:0e5}(apv:un C)(hB:M4 E B)(Y:3e6)(P:x.ab.br=E)
  (R:0e9) (jy:lk F.T 164=G (5 e)/\lk F.T 58=2e5) (W:Wr x J s.M [e]) (he:37e0=G (km C t)) (UN:h0.ao e=L) (K0:Kp J [] x h0 s.M)
  (h:∀aB s' bQ n t hs tk m' u,206 bQ->bQ.O=F.O->bQ.bE=F.bE->56 J x h0 s'.M->Wr x (J++aB) s'.M [e,n]->h0.ao n=L->e≠n->s'.M.ao e=G ⟨2e8,G n,.cn #[.N t,.L,.L,.L,33e8,.L],#[]⟩->
   s'.M.ao n=G (hJ [⟨hs,.ag 20e5 tk,u⟩] m')->RV (J++aB) s'.M v u->Q .bz s'):25 (mh B x.ab):=by
 (show zq hB λM5 k1 k2 k3 aqk=>?_;try clear hB;subst M5);have hp:((fK 1).Me==(fK 4).iF)=true:=ar;have okN:∀k,k<261->hq 5e5 k=true->hq 5e5 k=true:=λi i h=>h;have n1:hq (nm 165) 165=true:=by decide+cm
 have n2:hq (nm 164) 164=true:=by decide+cm
 have n3:hq 20e5 58=true:=by decide+cm
 have app:∀{apw aB:aV} {aR:MS} {s1 j:ae},aJ x apw aR s1->Wr x apw s1.M [e]->56 apw x s1.M j.M->Wr x (apw++aB) j.M [e]/\∀o,s1.M.ao e=0e4->j.M.ao e=0e4:=λapD W1 apE=>by
  have z:=W1.kj apD H apE;exact⟨z.1,λo m=>z.2 e (D.dP ..) o m⟩
 show 51e6;show 27e5;rw[agb,TD Y,Cm H];show 44 29e2;show 27e5;rw[Tz,yx H];show iJ (ahP n1 k1 H Y P R λp s1 apD apE i=>?_);show oA (app R W apE) λW1 e1=>?_;clear W;show 25e5;have hE:cI (kR qa d E) [190 164 2,190 58 3] [28e1,35e5]:= 326 ⟨H,CB n2 k2⟩ ⟨H,CB n3 k3⟩;unfold TB;rw[show Ci (D.U [PySem.aZ.dq (nm 164) (fK 2),PySem.aZ.dq 20e5 (fK 3)]+([]:D TA).U) (144 (fK 4) [PySem.aZ.dq (nm 164) (fK 2),PySem.aZ.dq 20e5 (fK 3)] x.ab) (Ma (fK 4) (Mb [] x.ab))=true from H];show 183 (ahR apD ?_);have ahU:∀{Q:137 dz} {s},Q (fK 4) s->25 (Cj true (190 165 0) x.ab (fK 1) (fK 4)):=by
  intro Q s h;unfold Cj;rw[hp];exact bG h
 show aY (ahU ?_);have UO:=apD.a0 (s1.a0+1);show uc (Cg hE) (vH hE F x _ _ _ EE Y P UO ?_);have ev:kc qa [28e1,35e5] F= 123 [5 e,v] F:=by
  have e1:ci qa 28e1 F= 7 (5 e):=by rw[CA];unfold mG;rw[jy.1];rfl
  have e2:ci qa 35e5 F= 21e9:=by rw[CA];unfold mG;rw[jy.2];rfl
  refine(ci qa 28e1 F).aE (λa F=>((ci qa 35e5 F).aE λb F=>(Internal.R.Y [] F).aE (316 (b::vs))).aE (316 (a::vs)))=_;rw[e1,qY,e2];rfl
 rw[ev];clear ev;show⟨λi h=>(nomatch h),λm2 j us R2 K2 r2=>?_⟩;(show jz (ahr r2.1) λi i yL ra rv=>?_;subst yL);clear r2;cases ra;show⟨⟨.t9,15e6,.qW H⟩,?_⟩;show oA (app UO W1 K2) λapx e2=>?_;clear W1;have UP:=e2 _ (e1 _ he);clear e1 e2 he;show aL.of (ahM (apv.bi _ _ R2.d7) UP λh3 apB ⟨t3,apq⟩=>?_);clear UP;have K1':Kp J p x h0 s1.M:=by
  have a:=K0.aU (m2:=p) (h2:=s1.M) (298 apE);rwa[D.uP]at a
 have K2':Kp J (p++m2) x h0 j.M:=K1'.aU K2;have R3:aJ x (J++p++m2) F {j with M:=h3}:=R2.hO (wr:=[e]) (λa r=>(apx a r).1) (λb o f=>apB b o (λq=>f (D.cY.bl q))) j.a0;have K3:Kp J (p++m2) x h0 h3:=K2'.hO (wr:=[e]) (401 UN) (λb o f=>apB b o (λq=>f (D.cY.bl q)));clear apB;have W3:Wr x (J++p++m2) h3 [e]:=λa r=>by
  have A:=(apx a r).1;clear apx;rw[44e9]at A⊢;exact⟨⟨A.d2,A.fr,A.fa,A.jY,λo m=>by rw[apq]at m;cases m;exact M3 H H⟩,_,apq⟩
 show aL.of (agc ?_);show 51e6;show 27e5;show 54e6;show 25e5;rw[show Ms [PySem.aZ.kM (190 164 6) 20e5 (fK 7)] (190 58 8) (fK 9).iF x.ab=TC (190 58 8) (G (PySem.aZ.kM (190 164 6) 20e5 (fK 7))) (fK 9).iF x.ab from H,Cm H];show 29e2;rw[d5 ap];have UQ:∀k v,19 F.T=2e5->ci qa (.l k) F= 123 v F:=λk v hv=>by
  rw[CA];unfold mG;rw[hv];rfl
 show aY (CB n3 k3 F x _ _ _ EE Y P R3 ?_);rw[UQ 58 v jy.2];show⟨λi h=>(nomatch h),λc aql u4 apy K4 r4=>?_⟩;show oA (app R3 W3 K4) λW4 e4=>?_;clear W3;rw[Mo aqk P,yD H];show 29e2;refine aL _ _ (do rF (.kM (190 164 6) 20e5 (fK 7)) x.ab u4;b8 iK.bz) _ _ _;show 27e5;show 23 (agE ..);show 91 (CB n2 k2 F x _ _ _ EE Y P apy ?_);rw[UQ 164 _ jy.1];clear jy;show⟨λi h=>(nomatch h),λapA g u5 w apu r5=>?_⟩;cases r5;show oA (app apy W4 apu) λapC e5=>?_;clear app W4;have apz:=e5 _ (e4 _ apq);clear e4 e5 apq;have UR:=apy.rv apu r4;have US:Kp J (p++m2++c++apA) x h0 g.M:=by
  have a:=K3.aU (m2:=c) (h2:=aql.M) (385 K4);exact a.aU (by simp only[<-D.eO];exact apu)
 have aqm:J++p++m2++c++apA=J++(p++m2++c++apA):=by simp only[D.eO]
 rw[aqm]at w apC UR;show 44 (183 (ahN (apv.bi _ _ w.d7) (sr w.d7) apz (apv.sa _) (apv.why _) λh6 n k6 hs tk m' UT apt M6 aps=>?_));show aL.of (vF (aL.of (bW (aL.of (zJ ?_)))));have apF:e<g.M.O.an:=ai.cP apz;clear apz;have qT:e≠n:=λq=>by rw[<-apt,<-q]at apF;exact I.lN _ apF
 clear apF;have l:=(apC e (D.dP ..)).1;clear apC;have apr:∀b o,b∉ [e]->g.M.ao b=0e4->h6.ao b=0e4:=λb o f=>UT b o (λq=>f (D.cY.bl q));clear UT;have R6:=w.hO (wr:=[e]) (401 l) apr k6;have K6:=US.hO (wr:=[e]) (401 UN) apr;show h (p++m2++c++apA) {g with M:=h6,a0:=k6} F n _ hs tk m' u4 R6 H H K6 (λa r=>?_) ?_ qT M6 aps ?_
 ·rcases D.eR.mp r with H|r
  ·exact⟨⟨l.d2,l.fr,l.fa,l.jY,λo m=>by rw[M6]at m;cases m;exact M3 H H⟩,_,M6⟩
  ·rw[44e9];clear h;have S:g.M.O.an<=n:=I.hZ apt.bh;exact⟨⟨λq=>31 (w.up _ q) S,λq=>31 (w.m8 _ q) S,λq=>31 (w.tU _ q) S,I.dV w.jY S,λo m=>by rw[aps]at m;cases m;exact UM⟩,_,aps⟩
 ·exact uh US (I.hZ apt.bh)
 ·show dN ?_ UR;exact w.MT (401 l) apr
def ahV{d:I}{C:aH}{v:V}{F:MS}{fn:Fn}{fd:jB}{B:11e1}(apv:un C)(apu:yo 35 fn fd B)(apE:fn.ps=[164,58])(hB:M4 fd.br B):
  JC (d+1) (5 C) [v] F (F.jn (.a7 C [(58,v)])):=by
 intro x J s u us Q EE Y R ru rs P;cases ru;(show aM (MY rs) λh apr rv=>?_;subst apr);clear rs;have apw:=sr R.d7;have KC:=apv.bi _ _ R.d7;obtain(⟨aqY,q,apC,bs,bm,a1,k0,k1,k2,k3,k5,j,hcB,hcO,hcA,hcN,pass⟩):=id KC.Z;have apt:171 s.M (pW 2e8) 46e7:=(e6.ld j).iX .oY;have LV:171 s.M (Cb 2e8 "__call__") (G 55e6):=apt.iX (f:=λt=>pm t "__call__") (.qW PySem.tc_lookup);have LX:171 s.M (st 2e8 46e7) true:=apt.iX (f:=λt=>lL t 46e7) (.qW PySem.tc_sub);have LY:171 s.M (Ax 2e8) (2e8::bm):=Cz λA Q E app g d tk os k q=>ahO (k C _ j) q;have LZ:171 s.M (Bind.madeBy 2e8) (G "Exception.__new__"):=Cz λA Q E app g d tk os k q=>wpAny_madeBy_exc (k C _ j) q;have ahW:171 s.M (lL 2e8 2e8) true:=Cz λA Q E app g d tk os k q=>by
  show UK (k C _ j) ?_;have:(af.N C::bm).hU 2e8=true:=by simp
  rw[a9];exact q
 have hi:=Cd (apB:=3e0) apw (apv.L1 x.w.bU);have w:(x.A.hF (384 [h])).dX=x.A.dX:=by rw[nR]
 show Tc (jI:=35) (Q₁:=λZ apF=>Z= 24e0/\apF={s with M:=(331 h).b5 49e3}) ⟨_,_,_,_,j⟩ LV LX LY H LZ (ahK KC 15e2) ?_;intro Z apF apA;(show oA apA λM5 apr=>?_;try clear apA;subst M5;subst apr);generalize apy:(s.M.b5 {bi:= .aA "tuple",be:= .cG #[h]}).b5 (km C s.M.O.an)=h1;have k:∀b o,8e8=0e4->h1.ao b=0e4:=λb o e=>by rw[<-apy];exact 340 e
 have hx:h1.ao (179 1)=G 49e3:=by
  rw[<-apy];have:=ai.fF (331 h) (o:=49e3) H;rwa[ai.iM]at a9
 have hz:h1.O.an=s.M.O.an+2:=by rw[<-apy,ai.iM,ai.iM]
 have t1:171 h1 (pW 24e0) 2e8:=(e6.ld hx).iX .oY;have aqn:dQ.In 36e5 h1:=apw.eH k;have nH:171 h1 (st 24e0 2e8) true:=t1.iX (f:=λt=>lL t 2e8) (ahW.eH k);show⟨nH.eS 15e2,(show 171 h1 (Cb 24e0 "__init__") (47 35)from t1.iX (f:=λt=>pm t "__init__") (hi.eH k)).eS 15e2,(bind_fn aqn _ (apv.fn x.w.bU)).eS 15e2,?_⟩;have apC:=R.jw k s.a0;have B9:=Y.g7;have Ca:=Y.jb;have yM:(380 [h]).Ok d:=by
  obtain(⟨o1,o2,aqo,o4,aqZ,aq0,o7,aqp,aqq,o10⟩):=Y;show⟨o1,o2,aqo,o4,?_,?_,?_,?_,?_,o10⟩
  ·refine(31e3).g7+_+_<_;rw[nR];refine x.A.g7+1+_+_<_;lia
  ·refine(31e3).jb+_+_<_;rw[nR];refine x.A.jb+1+_+_<_;lia
  ·refine(31e3).e8=_;rw[nR];exact o7
  ·refine(31e3).j5=_;rw[nR];exact aqp
  ·refine∃l,(31e3).dX=_/\_;rw[w];exact aqq
 have jy:fn.ps.fw ([V.aa 24e0,v]++fn.jp [V.aa 24e0,v].U)=[(164,5 (179 1)),(58,v)]:=by rw[apE];rfl
 have vV:([V.aa 24e0,v]++fn.jp [V.aa 24e0,v].U).U=fn.ps.U:=by
  have:(fn.jp 2).U=0:=by
   unfold Fn.jp;rw[apE];simp
  rw[D.hN,apE];refine 2+(fn.jp 2).U=2;rw[a9]
 have aqr:=(aJ.wA w).bl apC.1;show LR (d:=0) (x:=380 [h]) (as:=[5 (179 1),v]) apu vV yM (by refine(31e3).g7+_+_+_<_;rw[nR];refine x.A.g7+1+_+_+_<_;lia) (by refine(31e3).jb+_+_+_<_;rw[nR];refine x.A.jb+1+_+_+_<_;lia) aqr (326 14e9 (dN (jc k) rv)) λab s2 hL hf nY gJ UU Cv hz2 ok2 R2 zz=>?_;rw[jy]at R2;have LP:lr<=s.M.O.an:=R.jY;have apz:=Cv _ _ hx;have W:s.M.ao (179 1)=L:=ai.tT 37e9;have apx:ab.cX=s.M.O.an+2:=hL.aU hz;have frE:∀a,a<ab.cX->¬fr (ek (380 [h]) ab) a:=by
  intro a r apA;rcases apA with H|⟨_,n,apD⟩
  ·exact I.lN _ r
  ·exact I.lt_asymm r (gJ n a apD)
 have W2:Wr (ek (380 [h]) ab) J s2.M [s.M.O.an+1]:=λa r=>by
  rw[44e9];show⟨⟨R.Ll W,frE _ (by rw[apx];exact 40e6),λq=>?_,I.dV LP 37e9,λo eo=>by rw[apz]at eo;cases eo;exact M3 H H⟩,_,apz⟩;rcases(B6 (x:=380 [h]) UU).mp q with q|q
  ·rw[hf]at q;have e:s.M.O.an+2=s.M.O.an+1:=apx.bh.aU (aq.G.cE q);lia
  ·rw[L0 w]at q;exact 31 (R.tU _ q) 37e9
 have k02:∀b o,8e8=0e4->s2.M.ao b=0e4:=λb o e=>Cv b o (k b o e);show ahT (d:=0) (C:=C) (v:=v) (h0:=s.M) apv hB ok2 nY R2 15e2 W2 apz W (Lg k02 (by intro a aps;(show aM aps λp app zz=>?_;try clear aps);exact nomatch app)) λaB S c m t hs tk m' aqs R3 ho3 hr3 K3 W3 hd0 qT he3 hd3 rv3=>?_;show⟨H,?_⟩;have hL2:s.M.O.an<=ab.cX:=by rw[apx];lia
 show oA (aJ.B7 (s1:=s) ((aJ.wA w).bl R) hL2 hf gJ UU (λa o e=>e) 11e7 R3 K3) λi z=>?_;clear R3 K3;have i:=(aJ.wA w).mp i;have z:=(Kp.wA w).mp z;have AW:∀a∈dT (s.M.O.an+1,[m]),o3 x (J++aB) S.M a/\∃ob,S.M.ao a=G ob:=λa r=>by
  show sM (W3 a (by simpa [dT]using r)) λA ob e=>?_;clear W3;have apD:4e4=L:=Bx r W hd0;exact⟨⟨A.d2,λq=>(R.vC a q).ak λo e=>(nN (apD.bh.aU e)),λq=>(R.vD a q).ak λo e=>(nN (apD.bh.aU e)),A.jY,A.cn⟩,ob,e⟩
 have apq:=i.vU (p:=(s.M.O.an+1,[m])) (o:= .a7 C [(58,v)]) AW (by simp[dT,qT]) (λbR=>?_)
 ·have K5:=z.vU (p:=(s.M.O.an+1,[m])) λa r=>Bx r W hd0;clear AW z;have hm:aB=[]:=by
   have h1:=i.cR;clear i;have h2:=R.cR;rw[D.hN]at h1;have h3:(⟨c.O,F.T,c.bE⟩:MS).O.U=F.O.U:=by refine c.O.U=_;rw[ho3]
   rw[h3]at h1;exact D.J6.mp bM
  subst hm;have e1:c.O=F.O:=ho3;have e2:c.bE=F.bE:=hr3;rw[D.dY]at apq;rw[D.uP]at K5;have apq:165 J [(s.M.O.an+1,[m])] ⟨F.O++[.a7 C [(58,v)]],F.T,F.bE⟩ S:=by rw[<-e1,<-e2];exact apq
  show P.2 [_] S _ apq K5 (.Z _ (s.M.O.an+1,[m]) ?_);rw[<-R.cR,28e5,I.jj];rfl
 ·exact⟨(by refine 1<=1000;lia),m,[],_,m',_,#[],H,he3,hd3,265 ⟨25e1,dN bR rv3⟩,H,.a2 15e2⟩
set_option backward.match.sparseCases true
section
variable{apB:iz}{A:df}{E:af->ae->Prop}{s:ae}{C:aH}
structure vW(apB:iz)(h:ai)(C:aH):Prop where
 typ:e6 apB h (pW (.N C)) (.aA "type")
 Ce:e6 apB h (lL (.N C) (.aA "BaseException")) true
 bi:∃o cd,h.ao C=G o/\o.be= .bi cd
 a1:∀a,a≠38->e6 apB h (lL (.N C) (.N a)) (I.bX a C)
def sA.CD(apv:sA C h):vW apB h C:=by
 obtain(⟨w,q,apC,v,bm,a1,k0,k1,k2,k3,k5,s,n,r,m,i,p,_⟩):=apv.Z;show hT (apv.aB _ _ _ _ s) λe m2 b=>?_;have a1:∀apw,e6 apB h (lL 2e8 apw) ((af.N C::bm).hU apw):=λapw=>Cz λA Q E u g d tk os k q=>UK (k C _ s) q;show⟨(e6.ld s).iX .oY,?_,⟨_,_,s,H⟩,λa x=>?_⟩
 ·have:=a1 22e5;rwa[show(af.N C::bm).hU 22e5=true from e]at a9
 ·have:=a1 2e2;rwa[show(af.N C::bm).hU 2e2=I.bX a C from b a x]at a9
def M7(s:14e4=0e4):e6 apB h (isType 2e2) (match o.be with| .bi _=>true|_=>false):=
 (e6.ld (ve:=G headPart) s).iX .oY
def ahX(apt:vW apB h C):e6 apB h (M8 2e8) true:=by
 unfold M8;show gd apt.bi λo cd s hd=>?_;have z:=M7 (apB:=apB) s;rw[hd]at z;exact z.iX (f:=λb=>if b=true then lL 2e8 22e5 else 42e3) apt.Ce
def ahY{Q:0e5}(apt:vW apB s.M C)(x:37e0=G oe)(r:oe.bi= 2e8)(hd:oe.be= 27e1)(h:Q 9e7 s):67 (M9 9e7 m):=by
 have t:e6 apB s.M (pW 9e7) 2e8:=r▸(e6.ld x).iX .oY;have e1:e6 apB s.M (M8 9e7) false:=by
  unfold M8;have z:=M7 (apB:=apB) x;rw[hd]at z;exact z.iX (f:=λb=>if b=true then lL 9e7 22e5 else 42e3) .oY
 have e2:e6 apB s.M (st 9e7 22e5) true:=t.iX (f:=λt=>lL t 22e5) apt.Ce;unfold M9;show cK (e1.eS λa=>?_);show 35e4 <|?_;show cK (e2.eS λa=>?_);show pa H <|?_;exact 22e3
def ahZ{Q:0e5}(apt:vW apB s.M C)(x:37e0=G oe)(a:oe.bi= 2e8)(h:Q 9e7 s):67 (UV 9e7):=by
 have t:e6 apB s.M (pW 9e7) 2e8:=a▸(e6.ld x).iX .oY;unfold UV;show bf (t.eS (bf (apt.typ.eS ?_)));show pa ap <|?_;exact 22e3
def ah0{Q:29e1}(apt:vW apB s.M C)(x:vW apB s.M a)(b:a≠38)(r:37e0=G oe)(n:oe.bi= 2e8)(h:Q (I.bX a C) s):67 (excMatches 9e7 2e2):=by
 have t:e6 apB s.M (pW 9e7) 2e8:=n▸(e6.ld r).iX .oY;have k:e6 apB s.M (st 2e2 26e5) false:=x.typ.iX (f:=λt=>lL t 26e5) (.qW PySem.tc_notTuple);unfold excMatches;show cK (k.eS λm=>?_);show 35e4 <|?_;show cK (bW λm=>?_);simp-fs only[D.AL,D.forIn_nil];show bf (167 ((ahX x).eS ?_));simp-fs only[al.not_true,al.zH,zI];show bW (293 (t.eS (167 (bf ((apt.a1 a b).eS ?_)))));cases p:I.bX a C<;>rw[p]at h
 ·show 35e4 <|?_;exact bW (bW 22e3)
 ·show pa H <|?_;exact bW (bW 22e3)
universe e
set_option backward.match.sparseCases false
def UW:∀{l:1e0} {i:I} {o:aps},l[i]? =0e4->mu l i o=l
 | [],_,_,e=>by simp at e
 |app::l,0,o,e=>by cases e;rfl
 |app::l,i+1,o,e=>by
  have:=UW (l:=l) (i:=i) (o:=o) e;refine app::mu l i o=_;rw[a9]
section
variable{x:Fx}{J:aV}{F:MS}{s:ae}{Q:ey->ae->Prop}{EE:af->ae->Prop}{A:df}
def Na{i:I}{p:9e4}{C:aH}{d:0e1}{fr:aq aH}(R:0e9)(r:J[i]? =5e1)(v:22e1 =G (.a7 C d))
  (h:∀h',229 F 36e1->32e5->157 ()):aX 3e0 A (so 7e2 fr) Q EE s:=by
 obtain(⟨o,m,aC,es,n,vs,sl,w,g1,g2,g3,g,P⟩):=42 i v r;unfold so;rcases P with⟨hr,h1⟩|⟨tb,z,S,hr,h1,h2,h3,a,u⟩
 ·show cK (hG g1 H h1 λt=>?_);show 35e4 <|?_;exact bW (h s.M R (Kp.b7 ..))
 ·show cK (hG g1 H h1 λt=>?_);show pa (show(af.N tb !=af.L)=true from by simp) <|?_;show uY h2 a (by exact I.LL u) ?_;generalize(fr.ak af.L λf=>iC f)=app;have c:p.1≠tb:=λq=>by
   rw[q]at g1;rw[g1]at h2;cases h2;cases h3
  have j:m≠tb:=λq=>by
   rw[q]at g2;rw[g2]at h2;cases h2;cases a
  have l:tb∈24e3:=by unfold dT;rw[w,hr];simp
  have b:166 tb (374 (·.pV 3 app)):=ai.fy.eM ..;have apA:=R.m9 (o':= .a7 C d) r l b (λq e=>by rw[h2]at e;cases e;unfold iu;rw[h3,a];rfl) (h':=374 (·.pV 3 app)) (λk=>⟨o,m,aC,es,n,vs,sl,w,(b.2 _ c).aU g1,(b.2 _ j).aU g2,xY k g3,g,.aD ?_⟩) s.a0
  ·have e:F.cM i (.a7 C d)=F:=by unfold MS.cM;rw[UW v]
   rw[e]at apA;exact h _ apA.1 apA.2
  ·obtain(⟨oc,W,dt,apq⟩):=z;simp only at h3 a;subst h3 a;exact⟨tb,_,_,hr,h1,258 h2 H,H,H,by simpa using u⟩
universe e
def vX:Prop:=∀C,xC C=true->un C
section
variable{d:I}{sc:cC}{F:MS}
def ah1(hX:vX)(h:43 E ra):JS d sc (.Bn (G E) L aT) F (ra.aE λv bQ=>gO v 140 λi=>gB (I.g4 F.O.U i) 150 (gN (bQ.dL i) 150 λo=>A4 o i bQ)):=by
 intro x J s Q EE Y f hz S R P;show 23 (arm_exec_Raise ..);show iJ (eL λr=>?_);refine aL _ _ (do
  let xv<-(do let v<-27e8;kw aT;b8 v)
  let cv<-(b8 L:b4 12e4)
  let e<-gq cv.f3 (M9 xv "exceptions must derive from BaseException")
  if let G cv:=cv then
   let c<-if cv== .L then b8 .L else gq [e] (M9 cv "exception causes must derive from BaseException")
   SU e 3 c
   SU e 4 (22e6)
  let e<-if<-isType xv then gq [e] (raisedFor xv e)else UV e
  so e L
  JZ e) _ _ _
 show iJ (aY (h x J s _ EE Y f R (P.yF λv aR w s1 u1 b j r1 a=>44 (bG λr=>?_))));show iJ (bG λr=>?_);show Lc r1 a λi p m a=>fU a λl a=>eD a λo k a=>?_;cases o with
 |a7 C dd=>
  show fU a λapp a=>?_;have apv:=(hX C app).bi _ _ b.d7;have apt:=apv.CD (apB:=3e0);have q:=I.cy l;rw[<-R.cR]at q;obtain(⟨_,apq,aC,es,n,vs,sl,apA,g1,_⟩):=b.O i _ p k m;show iJ (349 (ahY apt g1 H H λr=>?_));have t:=M7 (apB:=3e0) g1;show 164 (t.eS ?_);rw[d5 (by exact al.lK)];show 164 (ahZ apt g1 H ?_);show 164 (Na b m k λh' u g=>?_);unfold JZ;show 164 (PW ?_);rw[Y.e8];show 180 (XV ?_);have z:70 w h':=by have:=j.aU g;rwa[D.dY]at a9
  exact a.2 w _ _ ⟨q,C,dd,k⟩ u.nl z (.Z i p m)
 |_=>exact a.ak
universe e
section
variable{x:Fx}{J:aV}{F:MS}{s:ae}{Q:af->ae->Prop}{EE:af->ae->Prop}{A:df}
def ah2{i:I}{p:9e4}{C:aH}{d:0e1}{z:am}{e:al}(apv:un C)(R:0e9)(B:J[i]? =5e1)(P:22e1 =G (.a7 C d))(j:lk d 58=G 7e8)
  (h:∀u t,17 7e8 u->Q u 54e8):aX 3e0 A (Cf 7e2 20e5 e) Q EE s:=by
 obtain(⟨apF,apx,aC,es,n,vs,sl,apz,g1,g2,g3,apu,l⟩):=42 i P B;clear l;have apw:=sr R.d7;have apy:L4 s.M p.1 _ C (G (hJ es n)):=⟨g1,H,H,g2⟩;clear g2 g1;show aM (apv.cd x.w.bU) λcd apD E=>?_;have app:=L2 (m:=n) (n:=58) g3;clear g3;rw[j]at app;(show aM app λu r b=>?_;try clear app);have k:Tn 36e5 C (G (hJ es n)) 20e5=G (.vI u):=by
  unfold Tn;rw[apD,aq.yh,apv.why,aq.yh];refine(W.L5 cd (G (hJ es n)) 20e5).cq _=_;unfold W.L5;rw[E,eX H];dsimp only;rw[r];rfl
 clear r;have S:handedIn u=true:=by cases b;rfl
 obtain(⟨v,g,apA,t,os⟩):=s;have a:=apy.aA (apB:=3e0);have q:=looks_find (apB:=3e0) apw apy k;clear k;have apE:=Cd (apB:=3e0) apw (apv.ga x.w.bU);have apq:=Cd (apB:=3e0) apw (apv.gx x.w.bU);have FB:=PySem.apu.attr_Exception;have apr:(55e1 ==56e9)=false:=by decide+cm
 have w:(UX (af.N C)&&55e1 ==56e9)=false:=by rw[apr];rfl
 have o:(e&&UX 55e1)=false:=by cases e<;>rfl
 have c:171 v (st 7e2 22e5) true:=a.iX (f:=λt=>lL t 22e5) ((apv.bi _ _ R.d7).CD (apB:=3e0)).Ce;unfold Cf getAttrBy;show bf (Tp (nA (bf (a.at (bf (apE.at ?_))))));dsimp only;rw[w,d5 ap];unfold getAttrByItsOwn hookBefore;rw[eX (show UX (af.N C)=true from H)];show bf (apq.at ?_);show bf (tj (nA ?_));unfold callGetattribute;rw[o,d5 ap];unfold boundAndCalled;rw[FB.ga.cq];show bf 20e3;show JP (UJ FB.ga.th PySem.apu.entry_bexc_ga (@Td 3e0 _ _ ⟨v,g,apA,t+1,os⟩ "BaseException.__getattribute__" "BaseException" "__getattribute__" 7e2 [.ag 20e5 t] [] _ 9e2 9e2 c (PySem.apu.args_bexc_ga _ _) ?_));unfold Builtin.«object.__getattribute__»;show bf (293 (293 (a.at (bf (q.at ?_)))));show 20e3;refine aX _ _ (handedOut u) _ _ _;rw[handedOut_of S];exact bW (h u (t+1) b)
universe e
section
variable{x:Fx}{J:aV}{F:MS}{s:ae}{A:df}{E:af->ae->Prop}{d:I}
def UY{m':am->12e4}(R:0e9)(h:h'.Ns x.ab.cX m')(hs:166 x.ab.cX h')(hm:f8 J J s.M h'->∀k v,41e6=12e3->19e1=2e5->∃u,m' 5e5=G u/\RV J h' v u)
  (r:∀k v,(41e6=18e8\/41e6=23e5)->19e1=2e5->19 F.T=2e5) (t:I):241 (219 T) t/\32e5:=by
 show R.Mi (T:=T) (h':=h') 2e6 hs (λp=>by(show uB h λo es ep e d p=>?_;try clear h);exact⟨o,es,ep,e,d⟩) (by(show ol h λo es ep e p=>?_;try clear h);exact⟨o,e⟩)
  (λz n c r=>by
   show gd (R.hj z n c r) λw o e d=>?_
   exact⟨w,o,(hs.2 c (λq=>by subst q;exact R.b2.2.2 n r)).aU e,d⟩)
  (λbR=>⟨⟨_,h,λk v a b=>hm bR k v a b⟩,λk v a b=>?_⟩) t
 obtain(⟨c,m,e1,⟨o,e2,i⟩,r1,no⟩):=200 k v (r k v a b);show⟨c,m,e1,⟨o,(hs.2 c λq=>?_).aU e2,i⟩,35e2,no⟩;clear e2 no;subst q;exact R.b2.2.2 _ (nc e1)
def ah3{Q:17e3}(Y:3e6)(R:0e9)(r:15e7)(p:41e6=12e3)
  (h:∀h' t,241 (F.fv k v) t->32e5->156 () t):aX 3e0 A (storeName x.ab 5e5 u) Q E s:=by
 obtain⟨m,j,hm⟩:=R.bp.iN;have o:(x.ab.br.d8== .class||(x.ab.br.d8== .TG&&x.ab.cX !=x.ab.g8))=false:=by rw[Y.fn];rfl
 show agh p j (λh' i hs=>?_) o;have apA:=UY (T:=fv F.T k v) R i hs (λbR n w a b=>?_) (λn w a b=>?_) (s.a0+1)
 ·exact h h' _ apA.1 apA.2
 ·rw[sv]at b;clear h i;split at b
  ·rename_i e;subst e;cases b;exact⟨u,eX H,30e5⟩
  ·rename_i e;show aM (hm n w a b) λl e1 r1=>?_;exact⟨l,by rw[d5 (λq=>e (r6 q))];exact e1,35e2⟩
 ·rw[sv]at b;split at b
  ·rename_i e;subst e;rw[p]at a;rcases a with a|a<;>cases a
  ·exact b
def ah4{Q:34e8}(Y:3e6)(apv:un C)(R:0e9)(o:lk F.T n=G 15e9)(b:J[i]? =5e1)(l:22e1 =G (.a7 C dd))(f:lk dd 58=G (.ag w))
  (hk:x.ab.dA 4e6=12e3) (hd:(4e6==("__debug__" :am))=false)
  (h:∀h' t u,241 F t->32e5->RV J h' (.X [7e8,.ag w]) u->156 (.bj u) t):
  aX 3e0 A (mh [.pM (G (.kh [.rZ 7e8 c p2,.kM (.dq 4e6 p3) 20e5 p4] kk p5)) p6] x.ab) Q E s:=by
 show qg (yy ..) ?_;show 23e7;show qg (Mg ..) ?_;show cK (pq λapp=>?_);refine aX _ _ (do let v<-233 (.kh [.rZ 7e8 c p2,.kM (.dq 4e6 p3) 20e5 p4] kk p5);return iK.bj v) _ _ _;show 23e7;show qg (Sy ..) ?_;show bf (pq 23e7);refine aX _ _ (do
   let v<-233 (.rZ 7e8 c p2)
   let eS<-40e0
   return eS++(<-gq eS (do
    let v<-233 (.kM (.dq 4e6 p3) 20e5 p4)
    let eS<-40e0
    return eS++(<-gq eS (b8 []))))) _ _ _
 show 23e7;show qg (aeR ..) ?_;refine aX _ _ (mkText z) _ _ _;show Tp (bf (293 (nA 23e7)));have e:=R.a0 (s.a0+1);rw[af5,yx H];obtain⟨m,k,hm⟩:=e.bp.iN;show aM (hm n _ hk o) λu e1 j=>?_;cases j using mD.cD with
 |Z q a=>
  rw[b]at a;cases a;show bf (qQ (RG Y.fn hk k e1 ?_) hd);show bf (pq (bf (nA (ah2 apv e b l f λu2 t r2=>?_))));show bf (SD 20e3);show bf (293 (nA (bW 20e3)));show 20e3;show Sz ?_ (by refine 2<=_;rw[f0];decide);show bW 20e3;have r:=e.ext (jW (307 [af.ag z s.a0,u2].gF)) (vE _) t;exact h _ t _ r.1 r.2 (.X _ _ [af.ag z s.a0,u2] ⟨_,10e0,H,_,H⟩ (by refine 2<=_;exact 24e5) (326 (.ag ..) (dN (jc (jW _)) r2)))
universe e
set_option backward.match.sparseCases true
inductive Nb (sc:cC):q0->apw×aq I×D S->Prop
 |mk {k n c kk:I} {z:am} {p1 p2 p3 p4 p5 p6 aT:dz}:hq (nm k) k=true->eu sc (nm k) .ly=true->hq (nm n) n=true->eu sc (nm n) .cU=true->
   Nb sc (.q0 (G (.dq (nm k) p1)) (G (nm n)) [.pM (G (.kh [.rZ (.ag z) c p2,.kM (.dq (nm n) p3) (nm 58) p4] kk p5)) p6] aT) (.g k,G n,[.bj (G (.X [.c (.ag z),.eY (.l n) 58]))])
abbrev FH(s:cC):D q0->D (apw×aq I×D S)->Prop:=cI (Nb s)
section
variable{x:Fx}{J:aV}{A:df}{d:I}{sc:cC}
def ah5{i:I}{p:9e4}{C:aH}{dd:0e1}{w:am}{Q:34e8}{EE:0e5}(hX:vX)(Y:3e6)(S:44e2)(apv:un C)(o:J[i]? =5e1)(B:lk dd 58=G (.ag w))
  {hs:D q0} {ls:D (apw×aq I×15e5)} (apz:FH sc hs ls) (F:MS) (s:ae) (hl:F.T=[]) (ho:22e1 =G (.a7 C dd)) (R:0e9):64 (hand C (.ag w) ls F) RF->97 (UZ 7e2 x.ab hs):=by
 induction apz with
 |aQ=>exact λP=>P.ak
 |aP h _ aps=>
  intro P;obtain(⟨h1,h2,h3,E⟩):=h;show eD P λq g P=>?_;cases aq.G.cE g;clear g;show eD P λu z P=>RQ P λa apx P=>fU P λj PP=>?_;rw[apx]at z;show oA (ba j) λn j=>?_;show oA (ba j) λj hc=>?_;have apu:a≠38:=λe=>by rw[e]at j;exact nF j
  show hT (tY h1) λn e2 n=>?_;show hT (tY h3) λn e4 n=>?_;have app:=lY E S;have apy:=((hX a hc).bi _ _ R.d7).CD (apB:=3e0);have apt:=(apv.bi _ _ R.d7).CD (apB:=3e0);obtain(⟨_,dx,aC,es,m,vs,sl,hpp,g1,_⟩):=42 i ho o;show wpAny_handleBy_cons (codeAny_handlers_test (qQ (RE Y R H (lY h2 S) z λu r=>?_) e2)) (by intro q;cases q);cases r;show ah0 apt apy apu g1 H ?_;show kQ PP (λt P=>?_) λt P=>?_
  ·rw[t];show codeAny_handlers_suite_as (Na R o ho λapE R1 K1=>?_);have r1:RV J apE 15e9 7e2:= .Z i p o;show ah3 Y R1 r1 app λh2' t2 apq apr=>?_;show ah4 Y apv apq (by rw[show(F.fv _ 15e9).T=fv F.T _ 15e9 from H,sv,eX H]) o ho B app e4 λapD t3 aqs c K3 r3=>?_;refine aX _ _ (do Mk x.ab _ .L;unbindBehindTheSuite x.ab _ _) _ _ _;obtain⟨aq1,W,hmm⟩:=c.bp.iN;have apF:(x.ab.br.d8== .class||(x.ab.br.d8== .TG&&x.ab.cX !=x.ab.g8))=false:=by rw[Y.fn];rfl
   show wpAny_nameGoes app W apF λf m' hn' Nc=>?_;have apA:=UY (T:=[]) c hn' Nc (λn k v n b=>nN b) (λk v n b=>nN b) (t3+1);have kk:=((K1.aU (by simpa using apr)).aU (by simpa using K3)).aU (by simpa using apA.2);have apC:229 F (350 f t3 1):=Eq.subst (wD:=λl=>229 (219 l) (350 f t3 1)) hl.bh apA.1;have A:f8 J J apD f:=by
    have:=c.eH (m2:=[]) apA.2;rwa[D.dY]at a9
   exact P.bj apC (by simpa using kk) (.bj (dN A r3))
  ·rw[t];exact aps P
def aG.ah6{α β:Type}{x:Fx}{J:aV}{s:ae}{r:3e3}{f:I->MS->3e3}{bq:17e8}{Q:12e2}{EE h:0e5}(P:11 (r.oM f))
  (apz:∀i aR aB s1 u,x4 J aR i->295 (4 aR.O aR.bE) s1->70 aB s1.M->RV (J++aB) s1.M 15e9 u->11 (f i aR)->h u s1):aG x J s r bq Q h:=by
 cases r with
 |aS a F ob=>exact P
 |a7 a F ob=>exact⟨(26e9).1,λaB s' u e R apv r=>apz a F aB s' u e R apv r 26e3⟩
 |no=>exact P.ak
def ah7{ih:Ih}{B:11e1}{b:15e5}{h0:q0}{hs:D q0}{app:D (apw×aq I×15e5)}{aT:dz}{F:MS}(hX:vX)(h:PB ih d sc B b)(apz:FH sc (h0::hs) app):JS d sc (.Try B (h0::hs) [] [] aT) F
  ((ih 12e5 F).oM λi bQ=>gN (bQ.dL i) 141 λo=>QD o app (4 bQ.O bQ.bE)):=by
 intro x J s Q EE Y c hz aps R P;show 23 (ah8 ..);show 25e5;show aM Y.dX λapE m k=>?_;(show aM (k hz) λl n t=>?_;subst n);refine aL _ _ (do
  match<-(mh B x.ab).DB with
  | .Y .bz=>mh [] x.ab
  | .Y f=>b8 f
  | .dH e=>do
   mR e x.ab
   so e L
   UZ e x.ab (h0::hs)) _ _ _
 show aY (wx (eW (h F x J s Q (λe s'=>259 (mR e x.ab) (λapB apF=>283 (do
   so e L
   UZ e x.ab (h0::hs)) apF) EE s') Y c hz pT.looking R (aG.ah6 P λi aR aB s1 u apx E apu r1 r=>?_)) (λf s' a=>?_) (λe s' W=>?_)))
 ·show aM Y.dX λapE m k=>?_;(show aM (k hz) λl n t=>?_;subst n);clear k;show Ta (x:=x) m H t E apu apx r1 λh1 iU p tb qU o aC apt C apC hc apD S apA r2 apv dI=>?_;clear dI m apD r1;cases r2 using mD.cD with
  |Z q a=>
   show eD r λo j r=>?_;cases o with
   |a7 C dd=>
    show eD r λv apq z=>aem z λw e P3=>fU P3 λgJ V=>?_;clear z;subst e;show 164 (Na (A:=x.A) S a j λh2 g apy=>?_);have apr:70 iU h2:=by have:=apA.aU apy;rwa[D.dY]at a9
    exact aL.of (ah5 hX Y c (hX C gJ) a apq apz (4 aR.O aR.bE) {s1 with M:=h2} H j g (V.qL (s1:={s1 with M:=h2}) apr))
   |_=>exact r.ak
 ·cases f with
  |next=>exact aL.of (zJ a)
  |_=>exact bG a
 ·exact eP W
def aG.ah9{α β:Type}{x:Fx}{J:aV}{s:ae}{r:3e3}{bq:17e8}{Q:12e2}{EE e:0e5}(P:27e7)(h:∀i F ob,r≠ .a7 i F ob):aG x J s r bq Q e:=by
 cases r with
 |aS a F ob=>exact P
 |a7 i F ob=>exact bL H (h i F ob)
 |no=>exact P.ak
def aia{ih:Ih}{B apu:11e1}{m:ck}{b f:15e5}{aT:dz}{F:MS}(h:PB ih d sc B b)(z:PB ih d sc (m::apu) f):JS d sc (.Try B [] [] (m::apu) aT) F
  (A5 ih (.xh b f) F):=by
 intro x J s Q EE Y c hz j R P;show 23 (ah8 ..);show 25e5;have w:=h F x J s;unfold A5 at P;dsimp only at P;generalize ih (.ss b) F=rb at P w;have P:64 (rb.aE λr F=>(ih (.ss f) F).aE λq F=>gX q 142 (7 r)) RF/\∀i F ob,rb≠ .a7 i F ob:=by
  cases rb with
  |aS a F ob=>exact⟨P,λk k k e=>nomatch e⟩
  |a7 i F ob=>exact P.ak
  |no=>exact P.ak
 show oA P λP t=>?_;refine aL _ _ (do
  match<-(do
   match<-(mh B x.ab).DB with
   | .Y .bz=>mh [] x.ab
   | .Y f=>b8 f
   | .dH e=>do
    mR e x.ab
    throw e:b4 iK).DB with
  | .Y g=>do
   let bR:=match g with| .bj v=>[v]|_=>[]
   match<-gq bR (zA (.DF (m::apu) x.ab) x.ab)with
   | .bz=>b8 g
   |p=>do pd "try.finally-overrides-flow";b8 p
  | .dH e=>do
   mR e x.ab
   so e L
   match<-gq [e] (zA (.DF (m::apu) x.ab) x.ab (G e))with
   | .bz=>passOn "try.finally" e x.ab
   |p=>do pd "try.finally-swallows-exception";so e L;b8 p) _ _ _
 show aY (wx (aY (wx (eW (w (λg s'=>aL 3e0 x.A (do
   let bR:=match g with| .bj v=>[v]|_=>[]
   match<-gq bR (zA (.DF (m::apu) x.ab) x.ab)with
   | .bz=>b8 g
   |p=>do pd "try.finally-overrides-flow";b8 p) Q EE s') (λk k=>fR) Y c hz pT.never R (aG.ah9 (P.aE λr aR apA s1 u1 l V r1 u=>?_) t)) (λg s' n=>?_) λk k h=>h.ak))))
 ·show 91 55e8;clear w;rw[wy];show OE (eW (z aR x _ s1 (λf s'=>283 (match f with
   | .bz=>b8 u1
   |p=>do pd "try.finally-overrides-flow";b8 p) s') EE Y c hz j l (u.aE λq dr m2 apq u2 app S r2 o=>?_)) (λf s' n=>n) j)
  clear u;cases r2 with
  |next=>
   show bG (o.fJ app ?_);cases r1 with
   |next=>exact .bz
   |bj r=>exact .bj (l.rv S r)
  |bj r=>exact o.ak
 ·cases g with
  |next=>exact aL.of (zJ n)
  |_=>exact bG n
universe e
def aib(hd:o.be= .bv es n):uf o:=by
 show⟨λs s e=>?_,λs s e=>?_,λs e=>?_,?_⟩
 ·rw[hd]at e;cases e
 ·rw[hd]at e;cases e
 ·rw[hd]at e;cases e
 ·exact tK hd
abbrev U0(J:aV)(h:ai):5e6->D (af×af)->Prop:=cI λp q=>RV J h p.1 q.1/\RV J h p.2 q.2
def U1{w:eA}{apv:Type}[qN apv]{gY:x6 pw w apv}{f:38e8}{J:aV}{h:ai}{c:V->al}(s:∀{k u},145 k->c k=true->∃a,f a k/\gY.is a u=true){l us}(apz:U0 J h l us):344 (c p.1)=true->∃bK,Carries gY us bK/\RK f J h l bK:=by
 induction apz with
 |aQ=>exact λb=>⟨[],dZ,.aQ⟩
 |aP a _ x=>
  intro e;show aM (x (ba e).2) λbK h1 h2=>?_;show aM (s a.1 (ba e).1) λk e1 e2=>?_;exact⟨(k,_)::bK,⟨e2,H,h1⟩,.aP ⟨e1,a.2⟩ h2⟩
def aic(r:145 k)(c:nH k=true):∃a,tI a k/\(oC pw w).is a u=true:=by
 cases r with
 |y i=>exact⟨i,25e1,eE H⟩
 |_=>exact nF c
def aid(r:145 k)(c:rM k=true):∃a,tJ a k/\(tL pw w).is a u=true:=by
 cases r with
 |ag i=>exact⟨i,H,eE H⟩
 |_=>exact nF c
inductive FD (ih:Ih) (d:I) (sc:cC):D (aq PySem.aZ)->D PySem.aZ->D (apw×apw)->Prop
 |aQ:FD ih d sc [] [] []
 |aP {apv V k v Ks Vs l}:PX ih d sc apv k->PX ih d sc V v->FD ih d sc Ks Vs l->FD ih d sc (G apv::Ks) (V::Vs) ((k,v)::l)
def yN(aT:dz)(ab:ez):D 41e8->10e4->D (b4 af×b4 af)
 |G apv::h,V::s=>(77 apv,(do let x<-77 V;kw aT;b8 x))::yN aT ab h s
 |_,_=>[]
def aie:∀{e s l},FD ih d sc e s l->(evalEachOpt e ab).fw ((qR s ab).aj λv=>do let x<-v;kw aT;b8 x)=(yN aT ab e s).aj λp=>(G p.1,p.2)
 :=by
 intro e s l apz
 induction apz with
 |aQ=>rfl
 | @aP apv V _ _ e s _ _ _ h a=>
  refine(G (77 apv),(do let x<-77 V;kw aT;b8 x))::(evalEachOpt e ab).fw ((qR s ab).aj λv=>do let x<-v;kw aT;b8 x)=_;rw[a];rfl
def pairs_len{Ks Vs l}(h:FD ih d sc Ks Vs l):(yN aT ab Ks Vs).U=l.U:=by
 induction h with
 |aQ=>rfl
 |aP _ _ _ ih=>exact bB (· +1) ih
def Kp.U2(a:Kp J [] x h h1)(b:56 J x h1 h2):56 J x h h2:=by
 have:=a.aU (m2:=aB) (h2:=h2) (298 b);rwa[D.uP]at a9
def aG.aif{α β γ δ:Type}{x:Fx}{J:aV}{s s1:ae}{r:3e3}{f:α->MS->R γ}{bq:17e8}{p:199 γ δ}{Q:12e2}{b:38e3}{EE:0e5}(P:100 34e7 p b)(apv:70 [] s1.M)
  (apz:∀a aR aB h u,295 aR h->56 J x s1.M h.M->70 aB h.M->bq (J++aB) h.M a u->100 (f a aR) p b->Q u h):aG x J s1 r bq Q EE:=by
 cases r with
 |aS a F ob=>exact⟨(26e9).1,λaB s' u R e r=>apz a F aB s' u R e (apv.U2 e) r 26e3⟩
 |a7 a F ob=>exact⟨P.1,λaB s' u k R e r=>P.2 aB s' u k R (apv.U2 e) r⟩
 |no=>exact P.ak
section
variable{ih:Ih}{d:I}{sc:cC}
def aig:∀{a b l},FD ih d sc a b l->∀(F:MS) (x:Fx) (J:aV) (s:ae) (Q:D (af×af)->ae->Prop) (EE:0e5),3e6->x.ab.br=sc->0e9->
  64 (AY ih l F) U0->25 (U3 (yN aT x.ab a b)):=by
 intro a b l apz;induction apz with
 |aQ=>exact λF x J s Q EE Y h R P=>273 .aQ
 |aP c w hs j=>
  intro F x J s Q EE Y h R P;refine 283 (U3 ((_,_)::yN aT x.ab _ _)) _;rw[U3];show iJ (c F x J s _ EE Y h R (P.aE λk aR app s1 u1 r S r1 n u=>?_));show 91 (aY (w aR x _ s1 _ EE Y h r (n.aE λv dr m2 i u2 e q r2 o=>?_)));show 44 32e8;show iJ (dg (j dr x _ i _ EE Y h e (o.aE λvs f t g z m p r3 P3 u=>?_)));exact bG (P3.fJ m (.aP ⟨e.rv p (r.rv q r1),e.rv p r2⟩ r3))
set_option tactic.hygienic true in
theorem aih{Ks:D 41e8}{Vs:10e4}{l:D (apw×apw)}{aT:dz}{F:MS}(h:FD ih d sc Ks Vs l)(g:I.jN l.U 16=true):43 (.Bi Ks Vs aT) ((AY ih l F).aE λvs F=>gB (I.g4 vs.U 900&&vs.dI (λp=>nI vs p.1)) 155 (F.jn (.bv (vs.iT 50e7 [])))):=by
 intro x J s Q EE Y nY R P;have apx:=pairs_len (aT:=aT) (ab:=x.ab) h;have g:=I.si.mp g;have apt:∀(s:ae),(209 50e3 (.bv #[])).ao s.M.O.an=G 52e4:=λs=>10e0;cases h with
 |aQ=>
  clear g;rw[eval_Dict_empty];show 44 (aL.of (qr ?_));have P:10 (F.jn 6e4):=by
   have P:=aG.oU P;exact P
  exact R.BR (jW _) (Lk _) P s.a0 λu=>⟨H,32e0,_,apt s,.a2 ⟨[],⟨#[],0,⟨H,H,H⟩,H,λe c=>by simp at c,.aQ,D.kP⟩,.aQ⟩⟩
 |aP hk hv hs=>
  have apy:=FD.aP hk hv hs;rw[arm_eval_Dict,aie apy,dictDisplay_pairs _ (by exact D.mJ _ _) (by rw[apx];exact I.Qd g)];show 44 27e5;unfold subDict;show iJ (aL.of (wpAny_alloc λu=>?_));have ie:=jW (h:=s.M) 52e4;have B:=R.jw ie s.a0;have C:=apt s;have S:s.M.ao s.M.O.an=L:=52e0;have W1:Wr x J (209 50e3 (.bv #[])) 39e8:=λa m=>by
   rw[D.cY.mp m];exact⟨⟨R.Ll S,λq=>(R.vC _ q).ak λo e=>(nN (S.bh.aU e)),λq=>(R.vD _ q).ak λo e=>(nN (S.bh.aU e)),R.jY,λo j=>by rw[C]at j;cases j;exact UM (es:=[]) (n:=0)⟩,_,C⟩
  show 91 ?_;rw[eX (by rw[apx];exact I.le_of_lt_succ g)];clear apx;show iJ (aig apy F x J {s with M:=209 50e3 (.bv #[])} _ EE Y nY B.1 (P.aif B.2 λvs aR aB r us apD MV K2 r2 app u=>?_));show oA (W1.kj B.1 H MV) λW2 k2=>?_;have U4:=k2 _ (D.dP ..) _ C;show fU app λapA app=>?_
  ·show oA (al.mB.mp apA) λW apr=>?_;have W:=I.cy W;have vV:=r2.cR;have apq:=(W2 _ (D.dP ..)).1;have ef:∀(h':ai) (t:I),ai.fy s.M.O.an r.M h'->(∃o,47e3=0e4/\o.yn/\(∃es ep,o.be= .bv es ep)/\(f8 (J++aB) (J++aB++[34e5]) h' h'->f8 (J++aB) (J++aB) r.M h'->
     DK x.w (J++aB++[34e5]) h' o (vs.iT 50e7 [])))->Q 9e9 {r with M:=h',a0:=t}:=by
    intro h' t hs apF;(show sN apF λo j hx ME hr=>?_;try clear apF;obtain⟨es,ep,hd⟩:=ME);have apE:∀b q,b∉ 39e8->r.M.ao b=G q->11e8=G q:=λb q apA e=>(hs.2 b (λz=>apA (D.cY.bl z))).aU e;have aps:∀a∈ [s.M.O.an],o3 x (J++aB) r.M a:=λa m=>by rw[D.cY.mp m];exact apq
    have R3:=apD.hO aps apE t;have apu:=apD.MT aps apE;have aii:uf o:=aib hd;have apB:=R3.vU (p:=34e5) (o:= .bv (vs.iT 50e7 [])) (λa m=>xZ m ⟨⟨apq.d2,apq.fr,apq.fa,apq.jY,λo' A=>aq.G.cE (j.bh.aU A)▸aii⟩,o,j⟩) (D.jd.bl ⟨nofun,.aQ⟩) (λbR=>⟨H,by have:=UH vs [];simp only[D.sk]at a9;lia,o,j,hr bR apu⟩);have K3:70 aB h':=K2.hO (wr:=39e8) (λa m=>by rw[D.cY.mp m];exact S) apE;have K4:=K3.vU (s:={r with M:=h',a0:=t}) (p:=34e5) λa m=>xZ m S;rw[D.eO]at apB;show app.2 (aB++[34e5]) _ _ apB K4 (.Z _ 34e5 ?_);rw[<-D.eO,<-apD.cR,28e5,I.jj];rfl
   have go:∀{apv:Type} [qN apv] {gY:x6 pw x.w apv} {f:38e8} (kE:∀{a b k apC},f a k->f b apC->mZ k apC=bJ (a=b)) {bK:31e8},Carries gY us bK->RK f (J++aB) r.M vs bK->r.M.qO gY s.M.O.an []->
     (∀{J h' l} {o:az},(∃bK,o.qK gY bK/\RK f J h' l bK)->DK x.w J h' o l)->259 (gq (us.tM λ(k,v)=>[k,v]) do
     for (k,v)in us do dictSet s.M.O.an k v) (λu s'=>Q 9e9 s') EE r:=by
    intro apv _ gY f kE bK i hr hm fV;show nA (bf (wpAny_storeAll (gY:=gY) us bK [] r _ i hm (by have e:=i.U;rw[f0,D.sk];lia) λh' hm' Nc=>20e3));show aM (ai.lX.mp hm') λo' A d'=>?_;show jz (id d') λes ep hx hd u=>?_;exact ef h' _ Nc ⟨o',A,hx,⟨es,ep,hd⟩,λbR apu=>fV ⟨_,d',UG kE (tN bR (tN apu hr)) .aQ D.kP⟩⟩
   have U5:vs.dI (λp=>nH p.1)=true->_:=λapz=>let⟨_,i,hr⟩:=U1 (w:=x.w) aic r2 apz;go BH i hr (ai.lX.bl ⟨_,U4,#[],0,⟨H,H,H⟩,H,λe c=>(nomatch c),.aQ,D.kP⟩) .a2;have aij:vs.dI (λp=>rM p.1)=true->_:=λapz=>let⟨_,i,hr⟩:=U1 (w:=x.w) aid r2 apz;go BI i hr (ai.lX.bl ⟨_,U4,#[],0,⟨H,H,H⟩,H,λe c=>(nomatch c),.aQ,D.kP⟩) .aD;show aL.of (hV (Q:=λu s'=>Q 9e9 s') (E:=EE) ?_ (λu s' h=>bG (bG h)) λu u e=>e);clear ef go vV apA;clear W;clear W;clear app;clear app r2;cases vs with
   |aQ=>exact U5 H
   |aP pk m'=>
    obtain⟨pk,aq2⟩:=pk;rw[D.tc]at apr;show oA (al.mB.mp apr) λc3 u=>?_;clear apr;unfold nI at c3;cases pk<;>dsimp only at c3<;>first|cases c3|skip
    ·exact U5 c3
    ·exact aij c3
universe e
section
variable{bb:gR}{w:eA}{A:df}{E:af->ae->Prop}{s:ae}
def aik{sB:af->b4 ey}{Q:0e5}
  (gJ:clausesOf e=g::gs) (hs:∀x,u6 g.lM ab x=b8 x) (J0:AC br ab=b8 cl)
  (J1:br.d8= .jJ) (xb:∀x∈br.bp,x.2= .cU->br.bp.bY x.1=12e3)
  (h:107 u7 (λx w=>aX apB A (qt x) (λit i=>aX apB A J2 (λcO q=>
   aX apB A (zE br ab.g8 cl [] ab.pt L .L (G ab)) (λjK v=>
    e7 apB A (.w9 e 0 it cO (318 br ab)) (λr s'=>match r with
     | .Y _=>107 (sB cO) (λa b=>∃m,b.M.Ns jK.cX m/\∀h',ai.fy jK.cX b.M h'->Q .L {b with M:=h'}) E s'
     | .dH x=>fR) v) E q) E i) E w) E s):
  29 (J3 e br ab aT J2 false u7 (G sB)):=by
 unfold J3;rw[J0,gJ];show aY (eW h (λx w t=>eP (pq (eP (gt (hs x) (eP (nA (hV t (λit i l=>?_) 26e8))))))) 26e8);rw[eX cH];show eP (pq (147 l (λcO q d=>180 (147 d (λjK v o=>?_) 26e8)) 26e8));dsimp only;have u:∀x∈(br.bp.oo λx=>(x.2== .cU||x.2== .dk)&&x.1 !=(".0" :am)).er,x.2= .cU->
   ez.dA (318 br ab) x.1=12e3:=λx n p=>acr (xb x (D.rA.mp (D.AD.mp n)).1 p)
 have c:∀x∈(br.bp.oo λx=>(x.2== .cU||x.2== .dk)&&x.1 !=(".0" :am)).er.fh 1++(br.bp.oo λx=>(x.2== .cU||x.2== .dk)&&x.1 !=(".0" :am)).er.fG 1,
   x.2= .cU->ez.dA (318 br ab) x.1=12e3:=λx n p=>by
  rcases D.lI.mp n with h1|h1
  ·exact u x (D.U6 h1) p
  ·exact u x (D.U7 h1) p
 show dg (aY (wx (dg (DC ?_ (by intro x;cases x)))));rw[wy];show zv o λr s' hr=>?_;cases r with
 |Y f=>
  show aY (T7 (91 (eW hr (λa b k=>?_) 26e8)));show aM k λm j k=>?_;exact eP (acs (jK:=(318 br ab)) J1 _ b m c j λh' m' a app=>bG (k h' app))
 |dH x=>exact hr.ak
universe e
section
variable{ih:Ih}{d k:I}{sc cs:cC}{m:Tg}
def ail{z w:PySem.aZ}{l:10e4}{it:apw}{h:am}{c:PySem.aZ}{aT b su:dz}{t:apq}{F:MS}{rl:It->I->MS->2e9}(apC:ul cs sc m)(MU:sc.bp.bY 34e1≠12e3)(hi:PI ih d sc w it)(hs:∀ab x,u6 w ab x=b8 x)
  (ht:PA ih d sc k (.dq h b) t) (hk:146 sc h=true) (aim:(b.iF==aT.iF)=true) (ain:(cs.bp.fN λ(n,k)=>n==h&&(k== .cU||k== .dk))=false)
  (hl:∀vs j aR,oP vs m=true->JE d (p9 cs sc) (132 z c w l cs) vs 0 j aR (rl vs j aR)):
  JS d sc (.pN [.dq h b] (132 z c w l cs) su) F (131 (yI ih m it rl F).aE (m0 (jO ih k t v F))):=by
 intro x J s Q EE Y f hz aq3 R P;show 54e6;show 25e5;have aqt:Ms [.dq h b] (132 z c w l cs) su.iF x.ab=b8 true:=by
  refine(b8 (x.ab.blockKind== .jJ&&x.ab.dA h==G .cU&&b.iF==aT.iF&&!(cs.bp.fN λ(n,k)=>n==h&&(k== .cU||k== .dk))):b4 al)=b8 true;rw[lY hk f,ain,aim];unfold ez.blockKind;rw[Y.fn];rfl
 rw[aqt];show 29e2;rw[eX H];have e1:(λv=>assignAll v (D.aj (λx=>x.snd) (vR [PySem.aZ.dq h b] x.ab)))=λv=>rF (.dq h b) x.ab v:=by
  rw[yD (show qZ (.dq h b)=true from H)];rfl
 rw[arm_evalThenUse_ListComp];dsimp only;rw[e1];have apz:=MK (br:=cs) (ab:=x.ab) λp apt C=>Y.vx p.1 (by
  obtain⟨n,k⟩:=p
  dsimp only at C
  subst C
  have:=apC.eG n apt
  unfold ez.dA
  rw[f];exact a9)
 have xb:∀app∈cs.bp,app.2= .cU->cs.bp.bY app.1=12e3:=λapp hy e=>by
  obtain⟨n,k⟩:=app;dsimp only at e;subst e;exact MN apC.nd hy
 show aY (aY (aik (g:=⟨c,w,l,0⟩) (gs:=[]) H (λv=>hs x.ab v) apz apC.d8 xb ?_));show Uy (Q:=λp s'=>aL 3e0 x.A (rF (.dq h b) x.ab p.1) (λi S=>∃m,S.M.Ns p.2 m/\∀h',ai.fy p.2 S.M h'->aL 3e0 x.A (b8 ():b4 ey) (λi s'=>283 (b8 .bz:b4 iK) s') EE {S with M:=h'}) EE s') apC MU hi hl Y f R ?_;generalize yI ih m it rl F=r at P⊢;cases r with
 |no=>exact P.ak
 |a7=>exact P
 |aS v bQ ob=>
  have P:64 ((m0 (jO ih k t v bQ)).ch ob) RF:=P;show oA 26e9 λapy P=>?_;show⟨apy,λaB s' u V apr r=>?_⟩;(show lG r λr E apv apx=>?_;(show oE E λm' hm=>?_;try clear E));show ht v bQ x (J++aB) s' u.1 _ EE Y f hz V r (aG.MG P apr λi dr m2 apB i apu apE i aps=>?_);(show ol hm λo es pp B hd=>?_;try clear hm);have W:Wr x (J++aB) s'.M [u.2]:=λa q=>by rw[52e8];exact⟨apv,o,B⟩
  show oA (W.kj V H apE) λapF il=>?_;show⟨m',⟨o,es,pp,il _ 28e6 o B,hd⟩,λh' apD=>bG 32e8⟩;have K3:=(apr.aU apE).hO (wr:=[u.2]) (λa q=>by rw[52e8];exact apx) (nf apD);have apA:=apu.hO (λa q=>(apF a q).1) (nf apD) apB.a0;rw[D.eO]at apA;exact aps.2 (aB++m2) _ _ apA K3 .bz
universe e
def aio(P:aw):(8e0).nv (353 1395)=G (1395,s7 P):=ar
section
variable{apB:iz}{A:df}{E:af->ae->Prop}{s:ae}{P:aw}
def aip:nM h c q->h.zD (.N c) q:=(by intro s;(show kX s λo vs t e x d r=>?_;try clear s);exact⟨c,o,vs,t,H,e,d,r⟩)
def U8(apu:253 s.M)(apq:s.M.ao lW=G (PySem.W.apw.Rm ps))(h:TriplesOk ps.f3):s.M.IsCode 1395 lW ps/\s.M.TableAt 1395 lW ps:=by
 have e:=pe apu 1395 _ (aio P);exact⟨⟨_,_,_,_,_,_,_,_,_,_,e,H,H,H,H,H,H,apq,H,h,ap⟩,⟨_,_,e,H,H,H⟩,apq⟩
universe e
section
variable{x:Fx}{J:aV}{F:MS}{s:ae}{h':ai}
def U9(P:aw):∀p∈KL P,p.1≠lW:=λp s e=>by
 have:=D.ib.mp (show(8e0).dI (λp=>!(341 lW))=true from ar) p s;rw[e,I.qI]at a9;cases a9
def aJ.aiq(R:0e9)(i:∀b o,b≠lW->8e8=0e4->11e8=0e4)(S:qJ h')(k:I):241 F k/\32e5:=by
 show aM R.cV λps e0 h=>?_;have nd:∀b o,8e8=0e4->(∀vs,o.be≠ 27e1)->11e8=0e4:=λb o e n=>i b o (λz=>by subst z;rw[e0]at e;cases e;exact n _ H) e;have P:∀b o,8e8=0e4->lr<=b->11e8=0e4:=λb o e t=>i b o (λz=>by subst z;exact bL t ap) e;have bR:f8 J J s.M h':=by
  show⟨λb aO e=>?_,λb aO e no=>?_,λb C n e no=>⟨nd b _ e (λh q=>nomatch q),no⟩,λh p e=>⟨p,e,H⟩,(by intro c q W;(show kX W λo vs t e a b r=>?_;try clear W);exact⟨o,vs,t,i c o (R.KT e a) e,a,b,r⟩)⟩
  ·show gD e λo e c n dd=>?_;exact⟨o,388 b e dd,c,n,dd⟩
  ·show gD e λo e c n dd=>?_;exact⟨⟨o,388 b e dd,c,n,dd⟩,no⟩
 show⟨⟨λq g=>i _ _ (U9 _ q g) (R.d7 q g),R.cR,λj o q e1 e2=>?_,R.nd,R.gy,λb app=>?_,⟨?_,λk v a b=>?_⟩,R.bH,R.hK,R.b2,λz n c A=>?_,λl V e apA=>?_,R.fx,R.dC,R.os,S⟩,?_⟩
 ·exact se bR (λb app apD e=>P b apD e (R.gy b ⟨q,D.ja e2,app⟩)) (R.O j o q e1 e2)
 ·show oE (R.g5 app) λq e=>?_;exact ai.cP (P b q e (R.gy b app))
 ·obtain(⟨m,⟨o,es,ep,e,dd,r⟩,hm⟩):=R.bp.iN;show(313 ⟨o,es,ep,388 _ e dd,dd,r⟩);show aM (hm k v a b) λu e1 r1=>?_;exact⟨u,e1,35e2⟩
 ·obtain(⟨c,u,e1,⟨o,e2,apw⟩,r1,no⟩):=200 k v b;exact⟨c,u,e1,⟨o,388 c e2 apw,apw⟩,35e2,no⟩
 ·show gd (R.hj z n c A) λw o e d=>?_;exact⟨w,o,388 c e d,d⟩
 ·exact(R.gz l V e apA).eH λa o e1 e2=>⟨o,P a o e2 (120 ⟨l,V,e,apA,e1⟩).1,H⟩
 ·show⟨λb q e t h h h=>i b q (λz=>by subst z;rw[e0]at e;cases e;cases t) e,λb q e f h=>⟨q,P b q e (R.fx b f).1,H,H⟩,λb q e h n=>i b q n e,λb q e=>?_,(by intro b apq;(show aM apq λq g h=>?_;try clear apq);exact nomatch g)⟩;by_cases app:b=lW
  ·subst app;(show aM S λB apE h=>?_;try clear S);exact⟨_,apE⟩
  ·exact⟨q,i b q app e⟩
universe e
section
variable{apB:iz}{A:df}{E:af->ae->Prop}{s:ae}{P:aw}
def air(w:ab.dG= .N 1395)(apu:253 s.M)(apq:qJ s.M){Q:0e5}
  (hQ:∀c h' tk,(∀b o,b≠lW->8e8=0e4->11e8=0e4)->s.M.O.an<=h'.O.an->nM h' c oS->qJ h'->156 (.N c) tk):
  67 (ais ab kN n gf oS xV ki (.xW vv)):=by
 (show aM apq λps e z=>?_;try clear apq;rcases z with H|⟨c,H,x⟩)
 ·show oA (U8 apu e dZ) λh1 h2=>?_;show wpAny_functionCodeX w h1 h2 H λa h' tk R i j B r d ⟨apF,_,_,k⟩=>?_;(show oA k λp h=>?_;try clear k;(show jA p λo vs g1 g2 g3 h=>?_;try clear p));(show qf r λh o2 apy t2 e2 f1 f2 S=>?_;try clear r);cases e2;rw[g1]at f1;cases f1;rw[g3]at f2;cases f2;have x:nM h' a oS:=⟨o,vs,t2,g1,g2,g3,S⟩;exact hQ a h' tk (λb o f e=>R b o f e) (I.jx (I.x5 i j)) x ⟨_,d.2,247 a H x⟩
 ·(show nn ((U8 apu e (by trivial)).1) λo vs file q=>?_;show nn q λC apx V v=>?_;try clear q;show qf v λapE text tt op t hd g u=>?_;try clear v;show zr u λh2 W apw apD apA m=>?_;try clear u;show hT m λapp apr apz=>?_;try clear m);unfold ais codeAt;rw[w,d5 (413 ((af.N 1395==af.L)=true))];show bf (ait t hd ?_);rw[g];show bf (ait apA app ?_);have l:codeAmong kN [iC kN.iF,iC kN.col,.N c]=47 c:=by
   refine(if(kN.iF==kN.iF&&kN.col==kN.col)=true then _ else _)=_;rw[vM,vM];rfl
  rw[show(#[iC kN.iF,iC kN.col,af.N c]:16e5).f3=[iC kN.iF,iC kN.col,.N c]from H,l];exact bW (hQ c s.M s.a0 (λh h h e=>e) 11e7 x ⟨_,e,247 c H x⟩)
def aiu{ab:ez}{c1 c2:aH}(z:ab.dG= .N 1395)(q:ab.g8=iB)(u:ab.pt= "_law_host.<locals>.")(w:317 31=G c1)(h2:317 100=G c2)
  (apu:253 s.M) (apq:qJ s.M) {Q:0e5}
  (hQ:∀fa h' tk fd cc,(∀b o,b≠lW->8e8=0e4->11e8=0e4)->s.M.O.an<=fa->h'.ao fa=G (315 47e2 (.mi fd))->Bv fd c1 c2 cc->nM h' cc oS->qJ h'->156 (.N fa) tk):
  67 (77 nL):=by
 rw[Rl,arm_eval_Lambda];have gJ:AC ki ab=b8 [(34e6,c2),(35e7,c1)]:=by
  rw[MK (λp h f=>?_)]
  ·have:lZ ab.b2 ki.bp []=[(34e6,(317 100).ge 0),(35e7,(317 31).ge 0)]:=ar;rw[a9,w,h2];rfl
  ·have cQ:∀p∈ki.bp,p.2= .eG->p.1=35e7\/p.1=34e6:=by decide+cm
   rcases cQ p h f with e|e<;>rw[e]
   ·rw[w];rfl
   ·rw[h2];rfl
 have hd:defaultsOf xV ab=([],[]):=ar;rw[hd];have t:ab.pt++ "<lambda>" =oS:=by rw[u];kernel_rfl
 rw[t];refine 67 (makeFunction "<lambda>" oS xV (.xW vv) ki ab [] [] [] kN kN.iF);show bf (bW (a:=af.L) (bf (qg (m':=b8 af.L) ar (293 (bW (a:=L) (bf (qg gJ (293 (wpAny_newObjAsIs_type ?_)))))))));generalize m:s.M.b5 _=apz;have k:∀b o,8e8=0e4->apz.ao b=0e4:=λb o e=>m▸33e3;have hz:s.M.O.an<=apz.O.an:=by rw[<-m,ai.iM];exact 37e9
 have v:253 apz:=λp h=>k _ _ (apu p h);show cK (air (s:={s with M:=apz}) z v (jr.Y (λa o e r=>k a o e) apq) λc h' tk n j i l r=>?_);have F2:253 h':=λp h=>n _ _ (U9 P p h) (v p h);have d:∀b o,b≠lW->8e8=0e4->11e8=0e4:=λb o x e=>n b o x (k b o e);have hm:h'.Ns ab.g8 (h'.jG iB):=by rw[q];exact .vz (pf F2)
 have x:h'.jG iB "__builtins__" =47 4:=by unfold ai.jG;rw[k3 F2];kernel_rfl
 show cK (wpAny_builtinsFor hm x ap (k4 F2) H H H λr=>?_);show cK (yd hm λr=>?_);show bf (bW (a:=af.L) 51e1);have app:s.M.O.an<=h'.O.an:=I.dV hz j;show hQ _ _ _ _ c (λb o x e=>86 (d b o x e)) app 10e0 ⟨H,H,H,H,H,H,q,H,H,H⟩ ?_ ?_
 ·exact jr.dG (λa o e r=>33e3) i
 ·exact jr.Y (λa o e r=>33e3) l
universe e
def Va:∀(l:1e0) (a o:aps) (r:1e0),mu (l++a::r) l.U o=l++o::r
 | [],_,_,_=>rfl
 |b::l,a,o,r=>bB (b:: ·) (Va l a o r)
def aiv{x:Fx}{J i d m2:aV}{F m:MS}{s s1 E P g app:ae}{ab:ez}{fa t f cc:aH}{S:jB}{v k n:V}{C:aH}(R:0e9)(hL:ab.cX=s.M.O.an)(hf:ab.eb=31e7)(gJ:∀n c,(n,c)∈ab.b2->ab.cX<c)(hA:39e9)
  (ie:48e5) (pU:51e0) (K2:Kp J i 5e4 s1.M E.M) (K3:Kp (J++i) d 5e4 E.M P.M) (R3:aJ 5e4 (J++i++d) m P)
  (R4:aJ 5e4 (J++i++d) m g) (K4:Kp (J++i++d) [] 5e4 P.M g.M) (yO:P.M.O.an<=fa) (Vb:g.M.ao fa=G (315 47e2 (.mi S))) (apt:Bv S t f cc) (qi:nM g.M cc oS)
  (R5:aJ 5e4 (J++i++d++m2) ⟨m.O++[112 [(31,v),(184,5 fa)]],m.T,m.bE⟩ app) (K5:Kp (J++i++d) m2 5e4 g.M app.M)
  (Vc:317 31=G t) (Vd:317 100=G f) (hk:lk m.T 31=G k) (hn:lk m.T 100=G n) (aqu:ab.dA 35e7=18e8) (aqv:ab.dA 34e6=18e8):
  ∃aB,295 ⟨m.O++[112 [(31,v),(184,.Z (m.O.U+1))]]++[.cV k n],F.T,m.bE⟩ app/\70 aB app.M/\∀u,RV (J++i++d++m2) app.M (.Z m.O.U) u->RV (J++aB) app.M (.Z m.O.U) u:=by
 have apv:Kp J (i++d++[]++m2) 5e4 s1.M app.M:=by
  have a:=K2.aU K3;have b:Kp (J++(i++d)) [] 5e4 P.M g.M:=by rw[<-D.eO];exact K4
  have c:Kp (J++(i++d++[])) m2 5e4 g.M app.M:=by rw[D.dY,<-D.eO];exact K5
  exact(a.aU b).aU c
 rw[D.dY]at apv;have R5':=R5;rw[D.eO,D.eO,<-D.eO i]at R5;show oA (R.B7 39e0 hf gJ hA ie pU R5 apv) λR6 K6=>?_;have W:(35e7,t)∈ab.b2:=nc Vc;have apD:(34e6,f)∈ab.b2:=nc Vd;have apx:fr 5e4 t:= 354 H W;have apy:fr 5e4 f:= 354 H apD;have apB:s.M.O.an<t:=hL▸gJ _ _ W;have s2l:s.M.O.an<f:=hL▸gJ _ _ apD;have apF:t<fa:=I.mF (R3.m8 _ apx) yO;have l2:f<fa:=I.mF (R3.m8 _ apy) yO;have aiw:t≠f:=λe=>by
  subst e;exact bL (r6 (Mh R5.b2.1 W apD)) ap
 have apq:∀a∈dT (fa,[t,f]),s.M.O.an<=a:=by
  exact λa z=>tO z (I.jx (I.yr apB apF)) (I.jx apB) (I.jx s2l)
 have apz:¬cx (J++i++d) fa:=λq=>31 (R3.up _ q) yO;have faF:¬fr 5e4 fa:=λq=>31 (R3.m8 _ q) yO;have faA:¬FA 5e4 fa:=λq=>31 (R3.tU _ q) yO;have apC:=K5.bR fa _ Vb H faA faF apz;have faO:¬cx (J++(i++d++m2)) fa:=λq=>by
  rw[<-D.eO,<-D.eO]at q;rcases 46e3 with q|q
  ·exact apz q
  ·exact 224 (K5.fk _ q) Vb
 have cd5:nM app.M cc oS:=(R4.eH K5).KR _ _ qi;obtain(⟨aq4,u1,e1,apA,r1,_⟩):=R5.bp.eU 31 k (.a2 aqu) hk;obtain(⟨aq5,u2,e2,i2,r2,_⟩):=R5.bp.eU 100 n (.a2 aqv) hn;rw[show(5e4).ab.b2.bY 35e7=G t from Vc]at e1;rw[show(5e4).ab.b2.bY 34e6=G f from Vd]at e2;cases e1;cases e2;have aix:¬cx (J++(i++d++m2)) t:=R5.bH _ apx;have aiy:¬cx (J++(i++d++m2)) f:=R5.bH _ apy;have aps:=R6.UL (p:=(fa,[t,f])) (o:= .cV k n) (λa z=>?_) (λa z=>?_) (λj w c a b e h=>?_) ?_ (λbR=>⟨S,t,f,u1,u2,H,apC,⟨cc,apt,cd5⟩,apA,i2,35e2,dN bR r2⟩)
 ·have K7:=K6.vU (p:=(fa,[t,f])) λa z=>ai.tT (apq a z);have vV:(J++(i++d++m2)).U=m.O.U+1:=by rw[R5.cR];simp
  have apw:m.O.U<(J++(i++d++m2)).U:=by rw[vV];exact 40e6
  show oE (⟨_,D.ic apw⟩:∃pi,(J++(i++d++m2))[m.O.U]? =G pi) λpi hpi=>?_;have apu:(J++(i++d++m2)++[(fa,[t,f])])[m.O.U]? =G pi:=by rw[D.kO apw];exact hpi
  have aqw:(J++(i++d++m2)++[(fa,[t,f])])[m.O.U+1]? =G (fa,[t,f]):=by
   rw[<-vV,28e5,I.jj];rfl
  have ho:(m.O++[112 [(31,v),(184,5 fa)]]++[.cV k n])[m.O.U]? =G (112 [(31,v),(184,5 fa)]):=by
   rw[D.kO (by simp),28e5,I.jj];rfl
  obtain(⟨_,dx,es,aqx,sl,aqy,apr,aqz,aqA⟩):=aps.O _ _ pi ho apu;have B:=(aps.m9 (h':=app.M) (o':= 112 [(31,v),(184,.Z (m.O.U+1))]) apu (D.dP ..) ⟨H,λzz zz=>rfl⟩ (λq e=>by rw[apr]at e;cases e;rfl) (λbR=>⟨by refine 2<=1000;decide,dx,es,aqx,sl,aqy,apr,aqz,?_⟩) app.a0).1
  ·show⟨i++d++m2++[(fa,[t,f])],?_,K7,λu r=>?_⟩
   ·rw[<-D.eO];have e:(⟨m.O++[.bu C [(31,v),(184,.aa (.N fa))]]++[.cV k n],F.T,m.bE⟩:MS).cM m.O.U (112 [(31,v),(184,.Z (m.O.U+1))])=⟨m.O++[112 [(31,v),(184,.Z (m.O.U+1))]]++[.cV k n],F.T,m.bE⟩:=by
     refine(⟨mu (m.O++[.bu C [(31,v),(184,.aa (.N fa))]]++[.cV k n]) m.O.U _,F.T,m.bE⟩:MS)=_;rw[D.eO,D.eO];exact bB (λl=>(⟨l,F.T,m.bE⟩:MS)) (Va _ _ _ _)
    rw[e]at B;exact B
   ·cases r using mD.cD with
    |Z p hp=>
     show .Z _ p ?_;rw[<-D.eO,D.kO apw,<-D.eO,<-D.eO];exact hp
  ·cases aqA with
   |aP g1 g3=>
    cases g3 with
    |aP apE aqB=>
     show .aP g1 (.aP ⟨apE.1,?_⟩ aqB);have A:=apE.2;generalize hv:iO.oR _=w at A⊢;cases A;exact .Z _ _ aqw
 ·have:=apq a z;show⟨?_,λq=>31 (R.m8 _ q) a9,λq=>31 (R.tU _ q) a9,I.dV R.jY a9⟩;exact tO z faO aix aiy
 ·show tO z ⟨_,apC,nofun,nofun⟩ ?_ ?_
  ·(show aM apA λo e dd=>?_;try clear apA);exact⟨o,e,dd▸nofun,dd▸nofun⟩
  ·(show aM i2 λo e dd=>?_;try clear i2);exact⟨o,e,dd▸nofun,dd▸nofun⟩
 ·obtain(⟨c',_,Q,⟨o,eo,_⟩,_⟩):=200 j w b;rw[e]at Q;cases Q;exact 31 (ai.cP eo) (apq c h)
 ·simp only[dT,D.jd,D.eR,D.mn,mo,Qb,aft,D.kP,td];exact⟨⟨I.u9 apF,I.u9 l2⟩,aiw⟩
noncomputable def lq(a b:I):dz:=⟨929,a,929,b⟩
noncomputable def yP:PySem.aZ:= .qG (.jR (256 102 20 30) [] [] (lq 20 32)) (256 31 33 37) (lq 20 38)
noncomputable def hX:apw:= .a1 (168 102 []) (.eU 31)
section
variable{ih:Ih}{d:I}
def aiz{fd:jB}{k n:V}{F:MS}(apv:yo 1396 va fd [.pM (G (.jR (256 101 11 19) [yP,nL] [] (lq 11 96))) (lq 4 96)])
  (wB:fd.dG= .N 1395) (hqu:fd.pb= "_law_host") (hE:kR ih d fd.br yP hX) (h1:hq (nm 101) 101=true) (h2:eu fd.br (nm 101) .ly=true) (hlk:lk gl 101=G (5 789)) (aiA:kT F (5 789))
  (c1:eu fd.br 35e7 .dk=true) (c2:eu fd.br 34e6 .dk=true)
  (hC:∀v u bQ,JC d (5 789) [v,29e8] bQ (.Y (.Z bQ.O.U) ⟨bQ.O++[175 (31,v) (184,29e8)],bQ.T,bQ.bE⟩)):
  JC (d+1) (5 1396) [k,n] F (Kn ih hX 789 [k,n] F):=by
 intro x J s u us Q EE Y R app apF P;cases app;have B9:=Y.g7;have Ca:=Y.jb;show LR (d:=d) apv ar Y bM bM R apF λab s1 hL A p gJ B apw apB b c ⟨apD,W⟩=>?_;have apE:va.ps.fw ([k,n]++va.jp ([k,n]:0e0).U)=[(31,k),(100,n)]:=ar;rw[apE]at c;have P:10 ((h9 (ci ih hX (219 [(31,k),(100,n)]))).aE λv bQ=>(h9 (ih (22 789 [v,0e6]) bQ)).aE λe e=>gN (lk bQ.T 31) 126 λk=>gN (lk bQ.T 100) 126 λn=>Internal.R.Y (V.Z bQ.O.U) ⟨bQ.O++[175 (31,v) (184,.Z (bQ.O.U+1))]++[.cV k n],F.T,bQ.bE⟩):=P;show 51e6;show 27e5;show 23 (Mg ..);show 25e5;refine aL _ _ (do let v<-77 (.jR (256 101 11 19) [yP,nL] [] (lq 11 96));return iK.bj v) _ _ _;show 27e5;show 23 (Ct ..);show aY (yj (d:=d) (F:=(219 [(31,k),(100,n)])) (aT:=lq 11 19) h1 h2 5e4 J s1 _ _ b p c ?_);unfold mG;rw[hlk];show⟨λe h=>(nomatch h),λaq6 l u2 t apA r2=>?_⟩;cases r2;show uc (by rw[na hE.1];rfl) ?_;rw[na hE.1];refine aL (bc 5e4) (5e4).A (do
   let v<-77 yP
   let eS<-40e0
   return eS++(<-gq eS (nb (144 (lq 11 96) [nL] ab)))) _ _ l
 show aY (hE.2 (219 [(31,k),(100,n)]) 5e4 _ l _ _ b p t ?_);generalize ci ih hX ⟨F.O,[(31,k),(100,n)],F.bE⟩=r at P⊢;cases r with
 |no=>exact P.ak
 |a7=>exact P.ak
 |aS v bQ ob=>
  show oA (aG.ch (r:=(h9 (ih (22 789 [v,0e6]) bQ)).aE λe e=>_) P) λapq P=>?_;show⟨apq,λm1 f u1 m K3 r3=>?_⟩;generalize ih (.aW (.aa (.N 789)) [v,.aa .L]) bQ=r2 at P;cases r2 with
  |no=>exact P.ak
  |a7=>exact P.ak
  |aS a dr mm=>
   show oA (aG.ch (r:=gN (lk bQ.T 31) 126 λk=>gN (lk bQ.T 100) 126 λn=>Internal.R.Y (V.Z bQ.O.U) ⟨bQ.O++[175 (31,v) (184,.Z (bQ.O.U+1))]++[.cV k n],F.T,bQ.bE⟩) P) λe P=>?_;show eD P λk' S P=>eD P λn' apy P=>?_;have P:=P.2;show oE (aq.mT.mp (b.vx 35e7 (.a2 (lY c1 (x:=5e4) p)))) λaq7 q=>?_;show oE (aq.mT.mp (b.vx 34e6 (.a2 (lY c2 (x:=5e4) p)))) λaq8 i=>?_;show 358 ?_;rw[na (show vG nL=true from by rw[Rl];rfl)];refine aL (bc 5e4) (5e4).A (do
    let v<-77 nL
    let eS<-40e0
    return eS++(<-gq eS (nb (144 (lq 11 96) [] ab)))) _ _ f
   show iJ (aL.of (aiu (apD.aU wB) b.vw (by rw[W,hqu];kernel_rfl) q i m.d7 m.cV λfa h' tk fd' cc g apx C apt E apC e=>?_));show oA (m.aiq g apC tk) λw o=>?_;show 358 (bG 32e8);have apu:yv (bc 5e4) h' (.N 789):=yw w 14e9 aiA;show bG ⟨apu,?_⟩;show hC v (.N fa) bQ 5e4 _ {f with M:=h',a0:=tk} _ [u1,.N fa] _ _ b w 14e9 (326 (dN (by have:=m.eH o;rwa[D.dY]at a9) r3) 14e9) ⟨λe h=>(nomatch h),λm2 aps j apr K5 r5=>?_⟩;show bG 32e8;show dU (aiv R hL A gJ B apw apB apA K3 m w o apx C apt E apr K5 q i S apy (lY c1 (x:=5e4) p) (lY c2 (x:=5e4) p)) λaB apz z hr=>?_;exact P aB aps j apz z (hr j r5)
universe e
set_option backward.match.sparseCases false
section
variable{bb:gR}{w:eA}{A:df}{R:md->ae->Prop}{s:ae}
def aiB
  (h:aL 6e2 (A.hW ab) (77 e) (λv s'=>332 v s')
   (λb s'=>272 w (A.hW ab) (rj ab b) (λa x=>R (.dH b) x) (λr x=>R (.dH r) x) s') s):
  96 A (.xW e ab) R s:=by
 show mf H ?_;refine aL _ (A.hW ab) (do wz;bj (<-(77 e).qh (rj ab))) _ _ s;exact 164 (OG (aY (ww (eW h (λv s' h'=>bG h') λa a h'=>aL.of h'))))
def aiC(i:A.g7<DG)
  (ho:4e4=0e4)
  (DH:o.be= .mi fd) (wB:fd.br.zB=false) (DI:fd.br.zC=false) (DJ:fd.cW= .xW cW) (qi:s.M.zD fd.dG fd.pb)
  (h:aX (bg bb w) A.fg (DL fd pj) (λp k=>
   aX (6e2) A.fg (zE fd.br fd.g8 fd.rk p (fd.pb++ ".<locals>.") 11e3 fd.dG L fd.jC)
    (λab b=>b.M.OI/\96 A (.xW cW ab) R b) (14e7) k) 14e7 s):
  96 A (.aW 2e2 pj) R s:=by
 show mf H ?_;refine aL _ A.fg (sS 2e2 pj) _ _ s;simp-fs only[sS];show fe (rm ho λx=>?_);(show qf qi λc oc vs l n u v q=>?_;try clear qi);simp only[DH,XY,wB,DI,DJ,n];rw[n]at h;show eP (m:=ro (.N c) 1) (hG u v q 29e2);exact 147 h (λp k j=>147 j (λab b r=>eP (XZ r.1 i
  (bG (i3.nq H r.2)))) 53e9) 53e9
universe e
def j0(x:Fx)(ab:ez):Fx:=⟨x.w,46e9,{ab with br:={ab.br with bp:=[(".0",.cU)]},b2:=[]},x.os,true⟩
def aJ.aiD{x:Fx}{J:aV}{F:MS}{s:ae}{c:ai}(R:0e9){m:am->12e4}{ab:ez}(hL:ab.cX=s.M.O.an)(i:c.Ns ab.cX m)(app:386 4e4 (c.ao a))
  (hf:ab.eb=31e7) (hk:ab.br.d8= .jJ) (hA:39e9) (tk:I):aJ 19e5 J (4 F.O F.bE) (85 c tk):=by
 have h:=(R.jw app tk).1;have f:lr<=s.M.O.an:=R.jY;have d:∀a,fr 19e5 a->s.M.O.an<=a:=by
  rintro a (rfl|⟨q,_⟩)
  ·exact 39e0
  ·cases q
 show⟨h.d7,h.cR,h.O,h.nd,h.gy,h.up,⟨⟨m,i,λk v a b=>(by cases b)⟩,λk v a b=>(by cases b)⟩,λa r j=>31 (R.up a j) (d a r),λa r=>I.dV f (d a r),⟨D.kP,D.kP,λn t=>(by cases t)⟩,(λq=>nG q),?_,?_,h.dC,h.os,h.cV⟩
 ·(show oE hA λl u=>?_;try clear hA);clear d;intro l' w e p;have:l'=ab::l:=by
   have:(19e5).A.dX=G (ab::l):=by refine 38e9=_;rw[u];rfl
   rw[a9]at w;cases w;rfl
  subst a9;rcases D.eR.mp p with H|p
  ·(show uB i λo es ep e1 e2 z=>?_;try clear i);exact⟨hk,_,o,hf,e1,es,ep,e2⟩
  ·exact h.gz l u e p
 ·rintro a ⟨l',w,e,p,r⟩;clear i;(show oE hA λl u=>?_;try clear hA);have:l'=ab::l:=by
   have:(19e5).A.dX=G (ab::l):=by refine 38e9=_;rw[u];rfl
   rw[a9]at w;cases w;rfl
  clear w;subst a9;rcases D.eR.mp p with H|p
  ·rw[hf]at r;cases r;rw[hL];clear hL;exact⟨f,λj=>294 (R.up _ j)⟩
  ·exact 120 ⟨l,u,e,p,r⟩
def Nd(k:39e9):FA 19e5 a ↔ (ab.eb=11e3\/FA x a):=by
 (show oE k λl p=>?_;try clear k);have e:(19e5).A.dX=G (ab::l):=by refine 38e9=_;rw[p];rfl
 constructor
 ·rintro⟨l',s,v,b,r⟩;rw[e]at s;cases s;rcases D.eR.mp b with H|b
  ·exact .a2 r
  ·exact .aD ⟨l,p,v,b,r⟩
 ·rintro(h|⟨l',s,v,b,r⟩)
  ·exact⟨_,e,ab,D.dP ..,h⟩
  ·rw[p]at s;cases s;clear s;exact⟨_,e,v,54 b,r⟩
def aJ.aiE{x:Fx}{J aB:aV}{F P:MS}{s s1 s':ae}(R:0e9){ab:ez}(hL:342 ab.cX)(apD:ab.eb=31e7)(app:39e9)
  (ie:48e5) (pU:51e0)
  (R':aJ 19e5 (J++aB) P s') (K':56 J 19e5 s1.M s'.M):206 ⟨P.O,F.T,P.bE⟩/\38e6:=by
 have i:∀a,a<s.M.O.an->¬fr 19e5 a:=by
  rintro a p (rfl|⟨q,_⟩)
  ·exact 31 p hL
  ·cases q
 have j:∀a,a<s.M.O.an->¬FA x a->¬FA 19e5 a:=by
  intro a p h q;rcases(Nd app).mp q with e|q
  ·rw[apD]at e;cases e;exact 31 p hL
  ·exact h q
 have apv:38e6:=by
  show⟨λa o e t f d apw=>K'.bR a o (ie a o e) t (j a 9e1 f) (i a 9e1) apw,λa o e f d=>K'.js a o (ie a o e) ((Nd app).bl (.aD f)) (i a 9e1),λa o e t n=>K'.iV a o (ie a _ e) t n,λa o e=>K'.g5 a o (ie a o e),λa p=>?_⟩;cases A:s.M.ao a with
  |L=>rfl
  |G o=>exact 224 (K'.fk a p) (ie a o A)
 have bR:=R.eH apv;have g:∀a o,¬14e2->4e4=0e4->¬68 (J++aB):=λa o h1 h2 h3=>(jt.mp h3).ak h1 λh=>nN ((323 h) h2);have eb:∀a o,FA x a->4e4=0e4->∃o',s'.M.ao a=G o'/\o'.be=o.be:=by
  intro a o f e;show dU (K'.js a o (ie a o e) ((Nd app).bl (.aD f)) (i a 9e1)) λo' e1 d e2=>?_;exact⟨o',e1,e2⟩
 have dk:∀c u,s.M.pO c u->¬cx J c->s'.M.pO c u:=by
  rintro c u ⟨o,e,hd⟩ no;show⟨o,K'.bR c o (ie c o e) (Bs hd) (j c 9e1 55e0) (i c 9e1) no,hd⟩
 show⟨⟨R'.d7,R'.cR,R'.O,R'.nd,R'.gy,R'.up,⟨?_,λk v a b=>?_⟩,λa p=>(R.vC a p).ak λo e=>g a o (R.bH a p) e,R.hK,R.b2,λz n c apA=>?_,λl apq e S=>?_,λa p=>⟨(120 p).1,(R.vD a p).ak λo e=>g a o (120 p).2 e⟩,R'.dC,R'.os,R'.cV⟩,apv⟩
 ·obtain(⟨m,⟨o,es,ep,e,hd,hs⟩,hm⟩):=R.bp.iN;have:∃o',s'.M.ao x.ab.cX=G o'/\o'.be=o.be:=by
   by_cases q:FA x x.ab.cX
   ·exact eb _ _ q e
   ·exact⟨o,K'.bR _ o (ie _ o e) (tK hd) (j _ 9e1 q) (i _ 9e1) (R.bH _ 2e6),H⟩
  (show aM a9 λo' apE W=>?_;try clear a9);show(313 ⟨o',es,ep,apE,W.aU hd,hs⟩);show aM (hm k v a b) λu e1 r=>?_;exact⟨u,e1,30e5⟩
 ·obtain(⟨c,u,e1,e2,r,no⟩):=200 k v b;show aM (id e2) λo e3 d=>?_;exact⟨c,u,e1,dk c _ e2 no,30e5,g c _ no e3⟩
 ·show oE (R.hj z n c apA) λw V=>?_;exact⟨w,dk c w V (R.bH c (247 z n apA))⟩
 ·exact(R.gz l apq e S).eH λa o e1 e2=>eb a o ⟨l,apq,e,S,e1⟩ e2
def aiF{ab:ez}{apB:iz}{A:df}{s:ae}{Q:0e5}{EE:0e5}{P:aw}{k:I}{u:af}(x:ab.br.d8= .jJ)(n:ab.g8=iB)(a:ab.jC=mU)(apu:253 s.M)(b:33e7=G .ly)(e:19 gl=G 29e8)(h:Q u s):aX apB A (yc ab 5e5) Q EE s:=by
 show aM (RD (J:=[]) apu e) λv r z=>?_;cases r;rw[ad8 x b];unfold loadGlobal;rw[n,a];show cK (yd (.vz (pf apu)) λp=>?_);rcases z with z|⟨z,m⟩
 ·rw[z];exact 22e3
 ·rw[z];show cK (yd (.vz (At apu)) λp=>?_);rw[m];exact 22e3
def Nf:PySem.aZ:= .jR (256 118 75 79) [256 67 80 86] [] (lq 75 87)
def CE:PySem.aZ:= .kh [256 31 69 73,Nf] 0 (lq 68 88)
def Ve:PySem.aZ:= .jR (.kM (256 100 55 60) (nm 46) (lq 55 67)) [CE] [] (lq 55 89)
def Vf:PySem.aZ:= .D [] (lq 93 95)
def aiG:vv= .pL .Or [Ve,Vf] (lq 55 95):=ar
def aiH:ki.zB=false/\ki.zC=false/\ki.d8= .jJ/\(∀x∈ki.bp,x.2≠ .dk)/\ki.bp.bY (nm 67)=12e3/\ki.bp.bY 35e7=23e5/\ki.bp.bY 34e6=23e5/\ki.bp.bY (nm 118)=G .ly:=by
 show⟨ar,ar,ar,by decide+cm,ar,ar,ar,ar⟩
def aiI{c1 c2 cc:aH}(apt:Bv fd c1 c2 cc)(u:af):DL fd (61 [u])=b8 [(nm 67,u)]:=by
 obtain(⟨gf,m,bU,cW,br,g8,rk,zO,DV,doc,pyModule,k,dG,p,jC⟩):=fd;obtain(⟨h1,h2,h3,a,r,x,e,b,h,s⟩):=apt;dsimp-fs only at h1 h2 h3 a r x e b h s;subst h3 x h s;kernel_rfl
def list_st(F:MS)(v:V):(∃w ob,∀T,vh true "list" [v] (219 T)= 20 w F.O T F.bE ob)\/∃k,vh true "list" [v] F= .no k:=by
 have h1:∀T,lR v (219 T)=lR v F:=λT=>by cases v<;>rfl
 have h2:∀T,vf v (219 T)=vf v F:=λT=>by cases v<;>rfl
 have h3:∀T,rP v (219 T)=rP v F:=λT=>by cases v<;>rfl
 have c0:∀s:MS,vh true "list" [v] s=(match lR v s with
   |G l=>s.ka true l (rP v s)
   |L=>gN (vf v s) 50 λl=> .Y (6 l) s):=λs=>ar
 have c1:∀(l:0e0) (t:al),(∃ob,∀T,MS.ka (219 T) true l t= 20 (.ad l t) F.O T F.bE ob)\/∃k,F.ka true l t= .no k:=by
  intro l t;unfold MS.ka gu;cases t with
  |true=>exact .a2 ⟨_,λT=>rfl⟩
  |false=>
   cases I.g4 l.U 16777216 with
   |true=>exact .a2 ⟨_,λT=>rfl⟩
   |false=>exact .aD 25e1
 cases q:lR v F with
 |G l=>
  rcases c1 l (rP v F)with⟨ob,h⟩|⟨k,h⟩
  ·exact .a2 ⟨.ad l (rP v F),ob,λT=>by rw[c0,h1,q,h3];exact h T⟩
  ·exact .aD ⟨k,by rw[c0,q];exact h⟩
 |L=>
  cases x:vf v F with
  |G l=>exact .a2 ⟨6 l,[],λT=>by rw[c0,h1,q,h2,x];rfl⟩
  |L=>exact .aD ⟨50,by rw[c0,q,x];rfl⟩
def aiJ{d:I}{i n:I}{k v:V}{F:MS}(hg:18e7=G (.cV k (.Z n))):JC (d+1) 15e9 [v] F (vi n k v F):=by
 intro x J s u us Q EE Y R ru rs P;cases ru using mD.cD with
 |Z p g=>
 (show aM (MY rs) λu1 MD r1=>?_;subst MD);clear rs;obtain(⟨fd,c1,c2,w1,w2,hp2,aiK,⟨cc,apt,qi⟩,ic1,Vg,aqC,rn⟩):=42 i hg g;obtain(⟨sc1,kl,Vh,sc4,Vi,sc6,sc7,sc8⟩):=aiH;have B9:=Y.g7;have Ca:=Y.jb;obtain⟨l,apC,_⟩:=Y.dX;obtain⟨r,t0,apD⟩:∃r t0,F.dL n=G (.ay r t0):=by
  cases e:F.dL n with
  |L=>unfold vi at P;rw[e]at P;exact P.ak
  |G o=>
   unfold vi at P;rw[e]at P;cases o with
   |ay r t0=>exact⟨r,t0,H⟩
   |_=>exact P.ak
 unfold vi at P;rw[apD]at P;rcases list_st F v with⟨w,IS,apr⟩|⟨kk,apr⟩
 case aD=>rw[apr]at P;exact P.ak
 have Vj:=apr F.T;rw[show(⟨F.O,F.T,F.bE⟩:MS)=F from H]at Vj;rw[Vj]at P;have P:10 ((match F.dL n with
  |G (.ay l t)=>(xB n (.ay l t) 46 [.X [k,w]] F).aE λB F=>Internal.R.Y (V.ad [] false) F
  |_=> .no 132).ch IS):=P
 obtain⟨aiL,P⟩:=26e9;rw[apD]at P;have P:10 (((gu (r.U+1) t0 F).aE λB F=>Internal.R.Y (V.aa .L) (F.cM n (.ay (r++[.X [k,w]]) t0))).aE λB F=> 7 11e0):=P;show rh (aiC (cW:=vv) bM aiK H (by rw[apt.br];exact sc1) (by rw[apt.br];exact kl) apt.cW (by rw[apt.dG,apt.pt];exact aip qi) ?_);rw[aiI apt u1,apt.rk,apt.br,apt.g8,apt.jC];show bW (ahp sc4 (λapp hy=>by rw[D.cY.mp hy];exact Vi) (λh1 C MW=>?_) Vh);have z:∀a o,4e4=0e4->h1.ao a=0e4:=λa o e=>MW.mq a o 45e3 33e3;show⟨LI (λp g=>z _ _ (R.d7 p g)),aiB ?_⟩;generalize S:newEnv ki s.M.O.an iB [(nm 100,c2),(nm 31,c1)] _ _ _ L mU=ab;have hL:ab.cX=s.M.O.an:=by subst S;rfl
 have apF:ab.eb=31e7:=by subst S;rfl
 have apy:ab.br=ki:=by subst S;rfl
 have apx:ab.g8=iB:=by subst S;rfl
 have apB:ab.jC=mU:=by subst S;rfl
 have Vk:ab.b2=[(34e6,c2),(35e7,c1)]:=by subst S;rfl
 have apq:ab.br.d8= .jJ:=by rw[apy];exact Vh
 have E:∀m,ab.dA m=ki.bp.bY m:=λm=>by unfold ez.dA;rw[apy]
 clear apy;rw[<-hL]at C;have apu:=R.aiD hL C z apF apq ⟨l,apC⟩ (s.a0+[(nm 67,u1)].U);have yM:(19e5).Ok d:=by
  show⟨apq,apx,apB,λm h=>?_,by refine x.A.g7+1+_+_<_;lia,by refine x.A.jb+3+_+_<_;lia,Y.e8,Y.j5,⟨ab::l,by refine 38e9=_;rw[apC];rfl,λq=>nG q⟩,λB=>rfl⟩;have e:(19e5).ab.dA m=D.bY m [(34e1,hw.cU)]:=H;rw[e,D.lB]at h;clear e;split at h<;>rcases h with h|h<;>cases h
 have lc2:317 100=G c2:=by rw[Vk,D.lB,vM]
 have lc1:317 31=G c1:=by
  rw[Vk,D.lB,show(35e7==34e6)=false from ar];rw[D.lB,vM]
 rw[aiG,ae4];set_option backward.match.sparseCases true in
 refine 346 (do
   let v<-77 Ve
   kw (lq 55 95)
   let t<-gq [v] (PySem.ll v)
   match pL.Or,t with
   | .i3,false| .Or,true=>b8 v
   |_,_=>boolOp (lq 55 95) .Or (qR [Vf] ab)) _ _ _
 show 27e5;show 23 (Tz ..);rw[yx (show vN (256 100 55 60)=true from H)];show 164 (qQ (RH apq (by rw[E];exact sc7) lc2 (Vg.eH z) ?_ ar) ar);clear Vg;show 25e5;have Mf:Ci ([CE].U+([]:D TA).U) (144 (lq 55 89) [CE] ab) (Ma (lq 55 89) (Mb [] ab))=true:=by
  unfold Ci;rw[na H];rfl
 unfold TB;rw[Mf];obtain⟨apA,apw,H⟩:∃apA,J[n]? =G apA/\w2= .N apA.1:=by cases rn using mD.cD with|Z apA apw=>exact⟨apA,apw,H⟩
 clear rn;show 183 (Tw (x:=19e5) apu apw apD (show rR (.ay r t0) 46=G "list.append" from H) ?_);show 27e5;unfold Cj;rw[show((lq 55 67).Me==(lq 55 89).iF)=true from H];show 32e8;show uc (by rw[na H];rfl) ?_;rw[na H];refine 346 (do
   let v<-77 CE
   let eS<-40e0
   return eS++(<-gq eS (nb (144 (lq 55 89) [] ab)))) _ _ _
 show 27e5;show 23 (Sy ..);show 44 27e5;rw[na H];refine 346 (do
   let v<-77 (256 31 69 73)
   let eS<-40e0
   return eS++(<-gq eS (nb (144 (lq 68 88) [Nf] ab)))) _ _ _
 show 164 (qQ (RH apq (by rw[E];exact sc6) lc1 (ic1.eH z) ?_ ar) ar);show 358 ?_;rw[na H];refine 346 (do
   let v<-77 Nf
   let eS<-40e0
   return eS++(<-gq eS (nb (144 (lq 68 88) [] ab)))) _ _ _
 show 27e5;show 23 (Ct ..);show 164 (qQ (aiF apq apx apB apu.d7 (by rw[E];exact sc8) (show lk gl 118=G (.aa 19e6)from cH) ?_) ar);clear apB apx;show uc (by rw[na H];rfl) ?_;rw[na H];refine 346 (do
   let v<-77 (256 67 80 86)
   let eS<-40e0
   return eS++(<-gq eS (nb (144 (lq 75 87) [] ab)))) _ _ _
 show 164 (qQ (RG apq (by rw[E];exact Vi) C (v:=u1) (by simp-fs [D.lB]) ?_) ar);show 358 (bG (bG ⟨⟨.t9,15e6,.qW H⟩,?_⟩));show UF (x:=19e5) yM apu (265 (dN (jc z) r1)) ?_ (fz:=true);rw[apr []];show⟨aiL,λj f W R3 K3 r3=>?_⟩;show 358 (bG 32e8);show 32e8;show aL.of (Sz ?_ (by refine 2<=_;rw[f0];lia));show oA (R3.jw (jW (h:=f.M) (307 ([w1,W]:2e4).gF)) f.a0) λR4 K4=>?_;show 358 (bG (bG ⟨⟨.t9,15e6,.qW H⟩,?_⟩));have Vl:f8 (J++j) (J++j) f.M (f.M.b5 (307 ([w1,W]:2e4).gF)):=jc (jW _);have rk3:RV (J++j) f.M k w1:=dN (apu.eH K3) (dN (jc z) aqC);have aqD:RV (J++j) (f.M.b5 (307 ([w1,W]:2e4).gF)) (.X [k,w]) (.N f.M.O.an):= .X _ _ [w1,W] ⟨_,10e0,H,_,H⟩ (by refine 2<=_;decide) (326 (dN Vl rk3) (dN Vl r3));have aiM:(J++j)[n]? =G apA:=by rw[379 apw];exact apw
 have A:r.U+1<=16777216/\∀m s' aps,165 J m (F.cM n (.ay (r++[.X [k,w]]) t0)) s'->70 m s'.M->RV (J++m) s'.M 11e0 aps->Q aps s':=by
  unfold gu at P;cases t0 with
  |true=>exact⟨P.1 _ (.rp _),P.2⟩
  |false=>
   dsimp only at P;cases apz:I.g4 (r.U+1) 16777216 with
   |true=>rw[apz]at P;exact⟨I.cy apz,P.2⟩
   |false=>rw[apz]at P;exact P.ak
 obtain⟨A,P⟩:=A;obtain⟨ob,hob,q1⟩:∃ob,gu (r.U+1) t0 ⟨F.O,[],F.bE⟩= .aS () ⟨F.O,[],F.bE⟩ ob/\∀p∈ob,p:=by
  unfold gu;cases t0 with
  |true=>exact⟨_,H,λp g=>by rw[D.cY.mp g];exact A⟩
  |false=>exact⟨[],by dsimp only;rw[I.Us.bl A];rfl,λB h=>nomatch h⟩
 show aL.of (Lx (x:=19e5) R4 aiM apD aqD ?_);clear apD;rw[hob];show⟨λp g=>q1 p (by simpa-fs using g),λm2 apE u5 R5 K5 r5=>?_⟩;cases r5;show 44 (183 (BO (x:=19e5) (F:=F) (J:=[]) (v:= 0e6) (show ll F.O 0e6=G (false,false)from H) 14e9 λkk=>?_));refine 346 (do kw (lq 93 95);SA (<-nb (144 (lq 93 95) [] ab))) _ _ _;show 44 (180 (aL.of (J8 ?_ (by refine 0<=_;exact 32e0))));show oA (R5.jw (jW (h:=apE.M) (308 ([]:2e4).gF)) kk) λR6 K6=>?_;have apv:Kp J (j++[]++m2++[]) 19e5 h1 (apE.M.b5 (308 ([]:2e4).gF)):=by
  have a:=K3.aU K4;have b:Kp (J++(j++[])) m2 19e5 (f.M.b5 (307 ([w1,W]:2e4).gF)) apE.M:=by rw[D.dY];exact K5
  have c:Kp (J++(j++[]++m2)) [] 19e5 apE.M (apE.M.b5 (308 ([]:2e4).gF)):=by rw[D.dY,<-D.eO];exact K6
  exact(a.aU b).aU c
 rw[D.dY,D.dY]at apv;rw[D.eO]at R6;have pU:s.M.O.an<=h1.O.an:=by rw[<-hL];exact I.jx C.lt
 show oA (R.aiE (s1:=(350 h1 s.a0 [(nm 67,u1)].U)) 39e0 apF ⟨l,apC⟩ z pU R6 apv) λaqE K7=>?_;clear hL apF;show P (j++m2) _ _ aqE K7 (.ad [] false _ [] ⟨_,10e0,H,_,H⟩ (λq=>?_) 32e0 .aQ);clear P;have:=R5.up _ (by rw[D.eO];exact q);exact 294 a9
section
variable{ih:Ih}{d:I}{sc:cC}
def aG.j1{γ δ:Type}{x:Fx}{J:aV}{ih:Ih}{a b:apw}{F:MS}{s:ae}{e:2e4->ae->Prop}{EE:0e5}
  {f:V->V->MS->R γ} {bq:199 γ δ} {Q:38e3}
  (P:11 (131 30e3 ((75 b) λw F=>f v w F)))
  (h:∀v w dr m2 k u1 u2,165 J m2 dr k->70 m2 k.M->RV (J++m2) k.M v u1->RV (J++m2) k.M w u2->11 (f v w dr)->e [u1,u2] k):
  100 (kc ih [a,b] F) (pQ 2) e:=by
 refine 100 (131 30e3 ((kc ih [b] F).aE (316 (v::vs)))) (pQ 2) e;generalize ci ih a F=r at P⊢;cases r with
 |a7 i aR ob=>exact P
 |no=>exact P.ak
 |aS v aR ob=>
  have P:11 (((ci ih b aR).aE λw F=>f v w F).ch ob):=P;show oA 26e9 λq P=>?_;refine 100 (((kc ih [b] aR).aE (316 (v::vs))).ch ob) (pQ 2) e;refine 100 ((((ci ih b aR).aE (395 [v])).aE (316 (_::vs))).ch ob) (pQ 2) e;generalize ci ih b aR=r2 at P⊢;cases r2 with
  |a7 i dr mm=>
   refine 100 (.a7 i dr (ob++mm)) (pQ 2) e;exact⟨λp m=>(300 m) (q p) (P.1 p),P.2⟩
  |no=>exact P.ak
  |aS w dr mm=>
   have P:11 ((f v w dr).ch mm):=P;show oA 26e9 λu P=>?_;refine 100 (.aS [v,w] dr (ob++(mm++([]++[])++[]))) (pQ 2) e;show⟨λp m=>?_,λaB s' us R apv r=>?_⟩
   ·rw[D.dY,D.dY,D.dY]at m;exact(300 m) (q p) (u p)
   ·show oA r λr j=>?_;cases r with
    |aP r1 n=>
     cases n with
     |aP r2 n=>
      cases n;exact h v w dr aB s' _ _ R apv r1 r2 P
def aiN{A B:PySem.aZ}{a b:apw}{id:am}{p aT:dz}(apx:kR ih d sc A a)(apv:kR ih d sc B b)(h1:hq id 70=true)(h2:eu sc id .ly=true):PI ih d sc (.jR (172 p) [A,B] [] aT) (168 70 [a,b]):=by
 intro F x J s Q EE Y apB R P;have P:64 (131 30e3 ((75 b) λw F=>gB (Qu v) 102 (gN (xo F.O w) 102 λapu=> 7 .aQ))) (mI x s.M):=P;rw[Ct];show aY (yj (d:=d) (F:=F) (aT:=p) h1 h2 x J s _ EE Y apB R ?_);unfold mG;rw[show lk gl 70=G (.aa 45e4)from cH];refine 100 (123 (.aa 45e4) F) RV _;show⟨λapu h=>(nomatch h),λaB s' u aps apz r=>?_⟩;cases r;have P':=P.qL apz;show uc (Cg (326 apx apv)) (vH (326 apx apv) F x _ s' _ EE Y apB aps ?_);show aG.j1 P' λv w dr m2 k u1 u2 f C r1 r2 S=>⟨⟨.t9,15e6,.qW H⟩,?_⟩;have ef:∀(t app:aH) (apF:16e5),jk k.M t #[]->k.M.gW app apF->aG x (J++aB) s' (Internal.R.Y It.aQ dr) (mI x s.M) Q EE->283 (aW 45e4 [.N t,.N app]) k:=by
  intro t app apF W V S;show aL.of (acS W V λh' hz hp apq hs apt=>?_);have E:=f.jw apt k.a0;have apC:=C.aU E.2;rw[D.dY]at apC;have tlt:t<k.M.O.an:=W.lt;show S.2 m2 _ _ E.1 apC (.aQ _ [k.M.O.an+4,k.M.O.an] ⟨⟨_,_,hz,H⟩,?_,?_⟩ (D.dP ..) ?_ ?_ ?_)
  ·intro i Q3 apr g apA j;have apD:tu i.M (k.M.O.an+4) (k.M.O.an+2) (k.M.O.an+3) .L:=g _ (D.dP ..) _ hz;have hi3:xe i.M k.M.O.an t 0:=(by(show aM apq λo e r=>?_;try clear apq);exact⟨o,g _ (54 (D.dP ..)) o e,r⟩);have ht3:jk i.M t #[]:=apA _ _ (W.eH apt);show acP Y.e8 (I.ip (I.aiO ap)) (I.ip (I.mF tlt (I.tR _ 4))) apD (apA _ _ ⟨_,hp,H,_,H⟩) hi3 ht3 λh4 hk4=>j h4 i.a0 λb o z e=>hk4 b o (λq=>z (by simp[q])) (λq=>z (by simp[q])) e
  ·intro i Q3 apr g apA j;have apD:tu i.M (k.M.O.an+4) (k.M.O.an+2) (k.M.O.an+3) .L:=g _ (D.dP ..) _ hz;exact aiP apD j
  ·intro a n;rcases D.eR.mp n with H|n
   ·exact f.yE (I.tR _ 4) hz H H ap
   ·rw[D.cY.mp n];(show dU apq λo e c dd=>?_;try clear apq);exact f.yE 11e7 e dd c ap
  ·intro a n;have apy:=apz.aU C;rcases D.eR.mp n with H|n
   ·exact uh apy (I.tR _ 4)
   ·rw[D.cY.mp n];exact uh apy 11e7
  ·intro i Q3 apr e j;exact aiP (show tu i.M _ _ _ _ from by rw[e];exact hz) j
 show fU S λapE P3=>eD P3 λl V P4=>?_;clear S;(show jz (Ln f V r2) λapp aO yL z apu=>?_;subst yL);clear r2;cases r1 with
 |X m a its n hm rs=>
  clear hm;cases rs with
  |aQ=>exact ef _ _ _ n z P4
  |aP=>exact nF apE
 |_=>exact nF apE
universe e
inductive aqF where
 |x (E:PySem.aZ) (e:apw)
 |t (E:PySem.aZ) (e:apw)
 |s (S:ck) (s:Internal.S)
 |b (B:D ck) (b:D Internal.S)
abbrev Ck:=cC->aqF->al
def qb{α β:Type}(p:α->β->al):8e4->D β->al
 | [],m=>kf m
 |a::l,m=>ln m λb m=>p a b&&qb p l m
def Vm(c:PySem.i9)(v:V):al:=match v with
 | .aa x=>I.bX x.ce 0&&I.bX c.ce 0
 | .bo b _=>Re c λd=>d==b
 | .y i _=>Rf c λj=>274 j i
 | .ag s=>KI c λt=>t==s
 | .cg l=>Rh c λb=>274 b l&&I.g4 l.U 16777216
 |_=>false
def yQ(c:Ck)(s:cC)(o:41e8)(e:aq apw):al:=match e with
 |L=>vq o
 |G e=>lp o λE=>78 E e
def yR(c:Ck)(s:cC)(h:10e4)(es:23e6):al:=qb (λE e=>vG E&&78 E e) h es
def CF(c:Ck)(x:cC):D 40e2->D jl->10e4->al
 | [],_,_=>false
 |p::ps,s,h=>ln s λop s=>ln h λE h=>274 op p.1&&(c x (.x E p.2)&&match ps with
  | []=>kf s&&(kf h&&!ae6 op E)
  |_::_=>ln s λa s=>ln h λe h=>CF c x ps (a::s) (e::h))
def Ng(c:Ck)(x:cC):D (apw×apw)->D 41e8->10e4->al
 | [],h,s=>kf h&&kf s
 |p::l,h,s=>ln h λapv h=>ln s λV s=>lp apv λapv=>c x (.x apv p.1)&&(c x (.x V p.2)&&Ng c x l h s)
def yS(s:cC)(apu:PySem.aZ)(n:I):al:=m5 apu λid h=>hq id n&&eu s id .ly
def CG(c:Ck)(s:cC)(h:10e4)(a:apw):al:=rW h λA=>vG A&&78 A a
def CH(c:Ck)(s:cC)(E:PySem.aZ)(e:apw):al:=match AZ e with
 |L=>78 E e
 |G z=>xR E λapu h x r=>kf x&&match z with
  | .a2 a=>yS s apu 44&&CG c s h a
  | .aD (.a2 a)=>yS s apu 57&&CG c s h a
  | .aD (.aD (a,b))=>yS s apu 70&&ln h λA h=>vG A&&(78 A a&&CG c s h b)
def Nh(E:PySem.aZ):al:=!I.bX E.ce 7
def hP(s:cC)(apq:PySem.aZ)(k:I):al:=m5 apq λid h=>id==5e5&&(146 s id||eu s id .dk)
def CI(s:cC)(apq:PySem.aZ)(h:Tg):al:=match h with
 | .n k=>hP s apq k
 | .t l=>tF apq λe x x=>qb (hP s) e l
def Ni(s h:cC)(m:Tg):al:=bJ (s.d8= .jJ)&&bJ (s.bp.aj (·.1)).dS&&s.bp.dI (λp=>match p.2 with
  | .cU=>(ML m).fN (λk=>p.1==5e5)||p.1==34e1
  | .eG=>eu h p.1 .dk||eu h p.1 .eG
  | .dk=>false
  |_=>true)&&146 s 34e1
def CJ(c:Ck)(s:cC)(b apq:PySem.aZ)(r:10e4)(x:apw)(h:Tg)(a:23e6):al:=match h with
 | .n m=>m5 apq λid p=>id==nm m&&146 s id&&(qb (λE e=>c s (.t E e)) r a&&78 b x)
 | .t _=>true
def CK(c:Ck)(s:cC)(E:PySem.aZ)(x:apw)(h:Tg)(it:apw)(e:23e6):al:=Bj E λa gs cs b=>rW gs λg=>
 decide (g.is_async=0)&&(Ni cs s h&&(! 146 s 34e1&&(CH c s g.lM it&&(Nh g.lM&&CJ c (p9 cs s) a g.iR g.j7 x h e))))
def LQ(apu:PySem.aZ):al:=I.bX apu.ce 23||(I.bX apu.ce 21||I.bX apu.ce 16)
def vY(c:Ck)(s:cC)(E:PySem.aZ)(e:apw):al:=match e with
 | .c v=>KD E λk h h=>Vm k v
 | .l n=>m5 E λid h=>hq id n&&146 s id
 | .eU n=>m5 E λid h=>hq id n&&(eu s id .dk||eu s id .eG)
 | .oD n=>m5 E λid h=>hq id n&&(eu s id .dk||eu s id .eG)
 | .g n=>yS s E n
 | .eY o n=>xS E λaps a h=>a==4e6&&(vN aps&&78 aps o)
 | .a1 a i=>xT E λA apy h=>78 A a&&78 apy i
 | .kI a lo u=>xT E λA apy h=>KE apy λapt apA t h=>vq t&&(78 A a&&(yQ c s apt lo.pB&&yQ c s apA u.pB))
 | .a5 op a b=>QU E λA d B h=>274 d op&&(78 A a&&78 B b)
 | .oF a=>Bh E λop A h=>304 .Not&&78 A a
 | .gZ a=>Bh E λop A h=>304 .USub&&78 A a
 | .lg l=>xQ E λop r h=>304 .i3&&qb (λE e=>78 E e) r l
 | .i6 l=>xQ E λop r h=>304 .Or&&qb (λE e=>78 E e) r l
 | .bT a o l=>KA E λA q r h=>78 A a&&CF c s (o.fw l) q r
 | .ff t a b=>Kz E λapq A B h=>c s (.t apq t)&&(78 A a&&78 B b)
 | .X l=>tF E λr h h=>yR c s r l&&I.g4 l.U 1000
 | .ad l=>eList E λr h=>yR c s r l
 | .oG k v=>QW E λapp j h=>Ng c s (k.fw v) app j&&I.jN (k.fw v).U 16
 | .iD x m it w=>CK c s E x m it w
 | .aW f es=>xR E λapu r p h=>kf p&&(LQ apu&&(78 apu f&&yR c s r es))
 | .bk o n es=>xR E λapu r p aT=>kf p&&xS apu λaps a su=>a==4e6&&(vN aps&&(78 aps o&&(yR c s r es&&(I.jN r.U 30&&su.Me==aT.iF))))
 | .lam=>false
 | .d2 _=>false
def vZ:apw->apw
 | .d2 e=>e
 |e=>e
def Nj:PySem.aZ->al
 | .rY .Not _ _=>false
 | .pL .. =>false
 | .vr .. =>false
 | .vt .. =>false
 |_=>true
def Vn(c:Ck)(s:cC)(E:PySem.aZ)(e:apw):al:=match e with
 | .oF a=>Bh E λop A x=>304 .Not&&c s (.t A a)
 | .lg l=>xQ E λop h x=>304 .i3&&qb (λE e=>c s (.t E e)) h l
 | .i6 l=>xQ E λop h x=>304 .Or&&qb (λE e=>c s (.t E e)) h l
 | .ff t a b=>Kz E λapq A B x=>c s (.t apq t)&&(c s (.t A a)&&c s (.t B b))
 | .bT a o l=>KA E λA r h x=>78 A a&&CF c s (o.fw l) r h
 |e=>Nj E&&vY c s E (vZ e)
def Nk(c:Ck)(s:cC):I->PySem.aZ->Internal.apq->al
 |0,_,_=>false
 |k+1,apq,t=>match t with
  | .n m=>hP s apq m
  | .a h n=>xS apq λaps a x=>a==4e6&&78 aps h
  | .s h e=>xT apq λaps apy x=>78 aps h&&78 apy e
  | .sl h lo b=>xT apq λaps apy x=>KE apy λapt apA t x=>vq t&&(78 aps h&&(yQ c s apt lo&&yQ c s apA b))
  | .t ts=>tF apq λr x x=>qb (λapq t=>43e8&&Nk c s k apq t) r ts
def Nl:50e8->aq (D I)
 | []=>G []
 |t::l=>match t with
  | .n k=>(Nl l).aj (k:: ·)
  |_=>L
def Nm(c:Ck)(h:cC)(apq E:PySem.aZ)(t:Internal.apq)(e:apw):al:=m5 apq λs r=>tn t λk=>Rc (vZ e) λx a it b=>(Bj E λp p cs aT=>
 s==5e5&&(146 h s&&(r.iF==aT.iF&&!(cs.bp.fN λ(n,k)=>n==s&&(k== .cU||k== .dk)))))&&CK c h E x a it b
def Vo(o:PySem.aZ->am->I->al)(B:11e1)(b:15e5):al:=rW B λS=>KF S λR h=>lp R λR=>tF R λx h h=>ln x λapv x=>rW x λA=>KD apv λz h h=>xS A λaps w h=>
 rW b λs=>abp s λr=>lp r λr=>Rb r λes=>ln es λapp es=>rW es λa=>xc app λv=>Ra a λe n=>KI z λz=>abq v λk=>xl e λp=>z==k&&(w==4e6&&(I.bX n 58&&o aps z p))
def Nn(s:cC):D (apw×aq I×15e5)->D q0->al
 | [],hs=>kf hs
 |(e,o,b)::m,hs=>ln hs λh hs=>Nn s m hs&&match h with
  | .q0 C i B _=>lp C λC=>m5 C λa r=>lp i λx=>xg e λk=>lp o λn=>
   hq a k&&(eu s a .ly&&(hq x n&&(146 s x&&Vo (λaps r p=>I.bX n p&&m5 aps λid r=>id==x) B b)))
def Vp(c:Ck)(x:cC)(S:ck)(s:Internal.S):al:=match s with
 | .bx t e=>Q0 S λv E p=>rW v λapq=>cB (vO E) (c x (.x E e)&&lp (yC x apq E) λr=>match r with
    |L=>43e8&&Nk c x 3 apq t
    |G l=>tF apq λp p p=>tF E λp p p=>tt t λts=>lp (Nl ts) λns=>decide (l=ns.aj nm)&&(ns.dI (λn=>146 x 4e6)&&bJ ns.dS)) (Nm c x apq E t e)
 | .ex e=>Q8 S λE p=>vO E&&c x (.x E e)
 | .bj o=>KF S λr p=>match o with
  |L=>vq r
  |G e=>lp r λE=>c x (.x E e)
 | .bC t a b=>Q5 S λapq A B p=>c x (.t apq t)&&(c x (.b A a)&&c x (.b B b))
 | .lO t b=>Q2 S λapq B apu p=>kf apu&&(c x (.t apq t)&&c x (.b B b))
 | .mr k i b=>Q1 S λapq apy B apu p=>kf apu&&(CI x apq k&&(CH c x apy i&&(Nh apy&&c x (.b B b))))
 | .kJ e=>Q6 S λE C p=>vq C&&lp E λE=>c x (.x E e)
 | .AP b hs=>KH S λB apz apx apu p=>kf apx&&(kf apu&&(c x (.b B b)&&ln apz λh0 h=>Nn x hs (h0::h)))
 | .xh b f=>KH S λB apz apx apu p=>kf apz&&(kf apx&&(c x (.b B b)&&ln apu λm apu=>c x (.b (m::apu) f)))
 | .AQ=>Q9 S λp=>true
def fc:I->Ck
 |0,_,_=>false
 |k+1,sc,t=>match t with
  | .x E e=>vY 18e1 sc E (vZ e)
  | .t E e=>Vn 18e1 sc E e
  | .s S s=>Vp 18e1 sc S s
  | .b B b=>match b with
   | []=>kf B
   |s::b=>ln B λS B=>fc k sc (.s S s)&&fc k sc (.b B b)
def Vq(o:az):aq jB:=match o.be with
 | .mi fd=>G fd
 |_=>L
def lD(P:aw)(a:I):aq jB:=((8e0).nv (353 a)).cq λp=>Vq p.2
noncomputable def No(P:aw)(a:I)(fn:Fn):al:=match lD P a with
 |G fd=>(match fd.cW with
  | .mS B=>fc 60 fd.br (.b B fn.cW)
  |_=>false)
 |L=>false
def q2(r:2e9):3e2:=r.aE λa F=>match a with
   | .v v=> 21e9
   |_=> .no 118
def iI(d:I)(tk:Tk)(F:MS)(r:2e9):Prop:=match tk with
 | .x e=>(∀k sc E,fc k sc (.x E e)=true->43 E (ci (λa a=>r) e F))/\∀k sc apq E t aT q,Nm 18e1 sc apq E t e=true->JS d sc (.pN [apq] E aT) F (131 (ci (λa a=>r) e F).aE (m0 (jO q 3 t v F)))
 | .t e=>∀k sc E,fc k sc (.t E e)=true->JT d sc E F (mw (λa a=>r) e F)
 | .s s=>(∀k sc S,fc k sc (.s S s)=true->JS d sc S F r)/\∀k sc apq B t b,s= .lO t b->fc k sc (.t apq t)=true->fc k sc (.b B b)=true->JW d sc apq B F r
 | .ss b=>∀k sc B,fc k sc (.b B b)=true->JB d sc B F r
 | .aW f as=>JC d f as F (q2 r)/\∀(x:Fx) (J:aV) (s:ae) (Q:0e5) (EE:0e5),10 (q2 r)->kT F f
 | .gj h it i b=>∀k sc apq B,CI sc apq h=true->oP it h=true->fc k sc (.b B b)=true->JF d sc apq it i B F r
 | .mt x h n it i j=>∀k kl p w apq m cs aT,CJ 18e1 kl p apq m x h n=true->oP it h=true->JE d kl (132 p apq w m cs) it i j F r
def fO(ih:Ih)(d:I):Prop:=∀tk F,iI d tk F (ih tk F)
section
variable{ih:Ih}{d k:I}{sc:cC}
def fO.x(apz:14e3)(h:fc k sc (.x E e)=true):PX ih d sc E e:=λF=>(apz (.x e) F).1 k sc E h
def fO.t(apz:14e3)(h:fc k sc (.t E e)=true):PT ih d sc E e:=λF=>apz (.t e) F k sc E h
def fO.b(apz:14e3){B:11e1}{b:15e5}(h:fc k sc (.b B b)=true):PB ih d sc B b:=λF=>apz 12e5 F k sc B h
def q3{α β:Type}{p:α->β->al}{q:17e7}(h:∀a b,p a b=true->q a b):∀{l:8e4} {m:D β},qb p l m=true->cI q l m
 | [],_,e=>kg e .aQ
 |a::_,_,e=>lU e λb s e=> .aP (h a b (ba e).1) (q3 h (ba e).2)
def fO.xs(apz:14e3)(h:yR 18e1 sc Es es=true):cI (kR ih d sc) Es es:=q3 (λE e h=>⟨7e5,apz.x 7e0⟩) h
def fO.o(apz:14e3)(h:yQ 18e1 sc E e=true):PO ih d sc E e:=by
 cases e with
 |L=>exact xP h .L
 |G e=>exact pK h λE h=> .G (apz.x h)
def fO.c(apz:14e3):∀{s:D jl} {x:10e4},CF 18e1 sc ps s x=true->FC ih d sc s x ps:=by
 induction ps with
 |aQ=>exact λh=>nF h
 |aP p ps b=>
  obtain⟨a,e⟩:=p;intro s x h;show lU h λop s h=>lU h λE x h=>?_;cases fo (ba h).1;have h:=7e0;cases ps with
  |aQ=>exact kg 27e9 (kg (27e4).1 (.ei (al.w7 _▸(27e4).2) 45e0))
  |aP q ps=>exact lU 7e0 λm s g=>lU g λr x g=> .aP 45e0 (b g)
def fO.dd(apz:14e3):∀{l:D (apw×apw)} {e:D 41e8} {x:10e4},Ng 18e1 sc l e x=true->FD ih d sc e x l
 | [],_,_,h=>kg 7e5 (kg 7e0 .aQ)
 |_::_,_,_,h=>lU h λs s h=>lU h λs s h=>pK h λs h=> .aP 45e0 52e1 (fO.dd apz 31e9)
def aiQ(h:Vm c v=true):KC c v:=by
 cases v with
 |aa x=>
  show oA 18e3 λh1 h2=>?_;cases x<;>first|(cases h1;done)|(cases c<;>first|(cases h2;done)|exact .L)
 |bo b _=>exact adE h λd h=>jv h▸ .bo _ _
 |y i _=>exact adF h λd h=>fo h▸ .y _ _
 |ag s=>exact Rg h λd h=>jv h▸ .ag _
 |cg l=>exact adG h λd h=>by cases fo (ba h).1;exact .cg _ (I.cy 7e0)
 |_=>cases h
def aiR(apz:14e3)(w:nV)(m:∀fz,∀x:Fx,qX ih fz d x)(R:∀x r it p,e≠ .iD x r it p)(h:vY 18e1 sc E e=true)(fz:al)(F:MS):43 E (tC ih fz e F):=by
 cases e with
 |c v=>exact QY h λs s s h=>aeQ (aiQ h)
 |l n=>exact oQ h λs s h=>So 7e5 7e0
 |eU n=>exact oQ h λs s h=>Sq 7e5 7e0
 |oD n=>exact oQ h λs s h=>Sq 7e5 7e0
 |g n=>exact oQ h λs s h=>yj 7e5 7e0
 |eY o n=>exact Bk h λs s s h=>jv 7e5▸af4 w (apz.x 31e9) 27e9
 |a1 a i=>exact Bl h λs s s h=>agq 45e0 (apz.x 7e0)
 |kI a lo S=>exact Bl h λs s s h=>QZ h λs s s s h=>xP 7e5 (ago 52e1 (apz.o (27e4).1) (apz.o (27e4).2))
 |a5 op a b=>exact eBinOp_ h λs s s s h=>42e5▸aeS (apz.x 27e9 F) (apz.x 31e9)
 |oF a=>exact Ky h λs s s h=>42e5▸aeU (apz.x 7e0 F)
 |gZ a=>exact Ky h λs s s h=>42e5▸aeX (apz.x 7e0 F)
 |lg l=>exact Bf h λs s s h=>42e5▸Su (op:= .i3) (397 (apz.x h) 7e0)
 |i6 l=>exact Bf h λs s s h=>42e5▸Su (op:= .Or) (397 (apz.x h) 7e0)
 |bT a o l=>exact QX h λs s s s h=>afb 45e0 (apz.c 7e0)
 |ff t a b=>exact QV h λs s s s h=>aeY (apz.t 7e5 F) 52e1 (apz.x 31e9)
 |X l=>exact tG h λs s s h=>afg (apz.xs 7e5) 7e0
 |ad l=>exact ads h λs s h=>afh (apz.xs h)
 |oG k v=>exact eDict_ h λs s s h=>aih (apz.dd 7e5) 7e0
 |iD x r it p=>exact bL H (R _ _ _ _)
 |aW f es=>exact KB h λapu j u aT h=>kg 7e5 (afQ (apz.x (27e4).1) (apz.xs (27e4).2) (m fz) λab=>by
   have z:=27e9
   clear h
   cases apu<;>first|exact Ct .. |rfl|cases z)
 |bk o n es=>exact KB h λapu j u aT h=>kg 7e5 (Bk 7e0 λs s s h=>by
   show oA 18e3 λh1 h=>?_
   show oA 18e3 λh2 h=>?_
   show oA 18e3 λh3 h=>?_
   show oA 18e3 λq h=>?_
   show oA 18e3 λP app=>?_
   repeat clear h
   cases jv h1
   exact af7 w (apz.x h3) h2 (apz.xs q) P app (m fz) λx=>ahH x)
 |lam=>cases h
 |d2 e=>cases h
universe e
section
variable{ih:Ih}{d k:I}{sc:cC}
set_option tactic.hygienic true in
theorem Np{s:cC}{id:am}{k:hw}(h:eu s id k=true):s.bp.bY id=G k:=by
 unfold eu at h;split at h
 ·rename_i x e;rw[e,fo h]
 ·cases h
def aiS(h:Ni cs sc tg=true):ul cs sc tg:=by
 unfold Ni at h;simp-fs only[al.lb,mW,D.ib]at h;(show oA h λs x=>?_;try clear h;(show oA s λs h3=>?_;obtain⟨h1,h2⟩:=s));show⟨h1,h2,λn e=>?_,λn e=>?_,λn e=>?_,Np x⟩
 ·have:=h3 _ (nc e);simp only[al.Vr,D.p7,AA]at a9;exact a9
 ·have:=h3 _ e;simp only[al.Vr]at a9;exact a9.f5 Np Np
 ·exact nF (h3 _ (nc e))
def itx:apw ⊕ apw ⊕ apw×apw->apw
 | .a2 a=> 168 44 [a]
 | .aD (.a2 a)=> 168 57 [a]
 | .aD (.aD (a,b))=> 168 70 [a,b]
def apw.g_{x:apw}{n}(e:x.g?=G n):x= .g n:=by
 cases x with
 |g=>exact 11e6▸H
 |_=>exact 18e0
def apw.ca_{x:apw}{p}(e:x.xF=5e1):x= .aW p.1 p.2:=by
 cases x with
 |aW=>exact 11e6▸H
 |_=>exact 18e0
def aiT{e:apw}{z:apw ⊕ apw ⊕ apw×apw}(h:AZ e=G z):e=itx z:=
 oB h λp h1 h=>oB h λn h2 h=>by
  rw[apw.ca_ h1,apw.g_ h2];obtain⟨f,es⟩:=p;clear h1 h2;cases es with
  |aQ=>exact nS h
  |aP a es=>cases es with
   |aQ=>exact cS h 55e9 λs h=>cS h 55e9 λs h=>nS h
   |aP b es=>cases es with
    |aQ=>exact cS h 55e9 λs h=>nS h
    |aP=>exact nS h
@[elab_as_elim] def Nq {C:PySem.aZ->Prop} (h:yS sc apu n=true) (g:∀id p,hq id n=true->eu sc id .ly=true->C (.dq id p)):C apu:=oQ h λa b h=>g a b (ba h).1 (ba h).2
@[elab_as_elim] def Nr (apz:fO ih d) {C:D PySem.aZ->Prop} (h:CG (fc k) sc aqG a=true) (g:∀A,kR ih d sc A a->C [A]):C aqG:=tE h λA h=>g A ⟨(ba h).1,apz.x (ba h).2⟩
def Vt(apz:14e3)(h:CH 18e1 sc E e=true):PI ih d sc E e:=by
 unfold CH at h;cases q:AZ e with
 |L=>rw[q]at h;exact ag4 (apz.x h) λF=>by unfold tB;first|(rw[q];done)|(rw[q];rfl)
 |G z=>
  rw[q]at h;rw[aiT q];clear q;show KB h λapu s r x h=>kg 7e5 ?_;have h:=7e0;rcases z with a|a|⟨a,b⟩
  ·exact Nq 7e5 λid p h1 h2=>Nr apz 7e0 λA g=>ag5 g h1 h2
  ·exact Nq 7e5 λid p h1 h2=>Nr apz 7e0 λA g=>ag7 g h1 h2
  ·exact Nq 7e5 λid p h1 h2=>lU 7e0 λA s h=>Nr apz 31e9 λB g=>aiN ⟨7e5,52e1⟩ g h1 h2
def Vu{apy:PySem.aZ}(h:Nh apy=true)(ab:ez)(x:af):u6 apy ab x=b8 x:=by
 cases apy<;>first|rfl|cases h
@[elab_as_elim] def Vv (apz:fO ih d) {C:PySem.aZ->Prop} (h:CK (fc k) sc E x tg it j7=true)
  (g:∀e apq s a cs aT,ul cs sc tg->sc.bp.bY (".0" :am)≠G .cU->PI ih d sc s it->(∀ab x,u6 s ab x=b8 x)->CJ (fc k) (p9 cs sc) e apq a x tg j7=true->C (.gV e [⟨apq,s,a,0⟩] cs aT)):C E:=
 adr h λe gs cs aT h=>tE h λ⟨apq,s,a,z⟩ h=>by
  cases fo (ba h).1;have h:=(ba h).2;show g e apq s a cs aT (aiS (ba h).1) (λq=>?_) (Vt apz (ba (ba (ba h).2).2).1) (Vu (ba (ba (ba (ba h).2).2).2).1) (ba (ba (ba (ba h).2).2).2).2;have h2:=(ba (ba h).2).1;unfold eu at h2;rw[q]at h2;cases h2
def aiU(apz:14e3)(h:CK 18e1 sc E x tg it j7=true)(fz:al)(F:MS):43 E (tC ih fz (.iD x tg it j7) F):=
 Vv apz h λs s s s s s h1 h2 h3 e a=>ahq (rl:=λvs j F=>ih (.mt x tg j7 vs 0 j) F) h1 h2 h3 e λvs j aR b=>apz (.mt x tg j7 vs 0 j) aR k _ _ _ _ _ _ _ a b
def aiV(apz:14e3)(b:nV)(a:∀fz,∀x:Fx,qX ih fz d x)(h:vY 18e1 sc E e=true)(fz:al)(F:MS):43 E (tC ih fz e F):=by
 cases e with
 |iD x r it p=>exact aiU apz h fz F
 |_=>exact aiR apz b a (λs s s s=>by intro q;cases q) h fz F
universe e
section
variable{ih:Ih}{d k:I}{sc:cC}
def Vw(r:3e2)(e:apw)(F:MS):ci (λs s=>mx r) e F=r:=by
 unfold ci mx;cases r with
 |aS a F o=>exact bB (R.aS a F) ((D.dY _).aU (D.dY o))
 |a7 i F o=>rfl
 |no=>rfl
def aiW(r:R al)(e:apw)(F:MS):mw (λs s=>r.aE λb F=> 7 (.b b)) e F=r:=by
 unfold mw;cases r with
 |aS a F o=>exact bB (R.aS a F) ((D.dY _).aU (D.dY o))
 |a7 i F o=>rfl
 |no=>rfl
def Vx(ih:Ih)(e:apw)(F:MS):∃fz,rS ih e F=tC ih fz (vZ e) F:=by
 cases e<;>first|exact⟨true,H⟩|exact⟨false,H⟩
def Vy(apz:14e3)(a:nV)(s:∀fz,∀x:Fx,qX ih fz d x)(h:vY 18e1 sc E (vZ e)=true)(F:MS):43 E (rS ih e F):=by
 show oE (Vx ih e F) λfz q=>?_;rw[q];exact aiV apz a s h fz F
def aiX{A:PySem.aZ}(h:Nj A=true)(ab:ez):sT A ab (77 A)=(do let v<-77 A;kw A.aT;gq [v] (PySem.ll v)):=by
 cases A with
 |rY op a p=>cases op<;>first|rfl|cases h
 |_=>first|rfl|cases h
def aiY(apz:14e3)(p:nV)(r:∀fz,∀x:Fx,qX ih fz d x)(h:Vn 18e1 sc E e=true)(F:MS):JT d sc E F (Km ih e F):=by
 have hO:∀e,Nj E=true->vY 18e1 sc E (vZ e)=true->JT d sc E F (BY (rS ih e F) 127):=λe h1 h2=>ae1 (Vy apz p r h2 F) (aiX h1);cases e with
 |oF a=>exact Ky h λs s s h=>42e5▸aeZ (apz.t 7e0 F)
 |lg l=>exact Bf h λs s s h=>42e5▸Sv (op:= .i3) (397 (apz.t h) 7e0)
 |i6 l=>exact Bf h λs s s h=>42e5▸Sv (op:= .Or) (397 (apz.t h) 7e0)
 |ff t a b=>exact QV h λs s s s h=>ae0 (apz.t 7e5 F) (apz.t 27e9) (apz.t 31e9)
 |bT a o l=>exact QX h λs s s s h=>aff (w:=127) 45e0 (apz.c 7e0)
 |_=>exact hO _ 7e5 7e0
@[elab_as_elim] def Nt {C:PySem.aZ->Prop} {apq:PySem.aZ} {n:I} (h:hP sc apq n=true) (g:∀p,(eu sc (nm n) .cU||eu sc (nm n) .dk)=true->C (.dq (nm n) p)):C apq:=oQ h λa p h=>by
 cases jv (ba h).1;exact g p (ba h).2
def aiZ(apz:14e3)(r:nV)(j:I):∀{apq:PySem.aZ} {t:Internal.apq},Nk 18e1 sc j apq t=true->PA ih d sc j apq t:=by
 induction j with
 |i4=>intro apq t h;cases h
 |hH j b=>
  intro apq t h;cases t with
  |n m=>exact Nt h λx h=>Co H h
  |a e n=>exact Bk h λx x x h=>jv 7e5▸agD r (apz.x 7e0)
  |s e v=>exact Bl h λx x x h=>agF 45e0 (apz.x 7e0)
  |sl e lo p=>exact Bl h λx x x h=>QZ h λx x x x h=>xP 7e5 (agH 52e1 (apz.o (27e4).1) (apz.o (27e4).2))
  |t ts=>exact tG h λx x x h=>T3 (q3 (λapq t h=>⟨7e5,b 7e0⟩) h)
def ai0{α β γ:Type}{p:α->γ->Prop}{f:β->γ}{l:8e4}{m:D β}(h:cI (λa b=>p a (f b)) l m):cI p l (m.aj f):=by
 induction h with
 |aQ=>exact .aQ
 |aP a _ ih=>exact .aP a ih
def CL{apq:PySem.aZ}{x:Tg}(h:CI sc apq x=true)(j:I):PA ih d sc (j+2) apq (MH x):=by
 cases x with
 |n k=>exact Nt h λs h=>Co H h
 |t l=>exact tG h λs s s h=>T3 (ai0 (q3 (λapq t h=>Nt (C:=λapq=>43e8=true/\PA ih d sc (j+1) apq (.n t)) h λs h=>⟨H,Co H h⟩) h))
def CM{apq:PySem.aZ}{x:Tg}{it:It}(h:CI sc apq x=true)(h2:oP it x=true):Cr it apq:=by
 cases it with
 |gL s=>
  cases x with
  |n=>cases h2
  |t l=>exact tG h λe e e e=>⟨_,_,_,H⟩
 |_=>trivial
def ai1(h:(lp C λC=>m5 C λu x=>lp i λq=>xg e λk=>lp o λn=>
   hq u k&&(eu sc u .ly&&(hq q n&&(146 sc q&&Vo (λaps x j=>I.bX n j&&m5 aps λid x=>id==q) B b))))=true):Nb sc (.q0 C i B p) (e,o,b):=by
 show pK h λC h=>oQ h λu x h=>pK h λq h=>xg_ h λk h=>pK h λn h=>?_;show oA 18e3 λh1 h=>?_;show oA 18e3 λh2 h=>?_;show oA 18e3 λh3 h=>?_;show oA 18e3 λc hr=>?_;repeat clear h
 cases(tY h1).1;cases(tY h3).1;show tE hr λS h=>KG h λR x h=>pK h λR h=>tG h λd x x h=>lU h λapv d h=>tE h λA h=>QY h λz x x h=>Bk h λaps w x h=>
  tE h λs h=>adC h λr h=>pK h λr h=>adA h λes h=>lU h λapp es h=>tE h λa h=>xc_ h λv h=>adz h λe m h=>Rg h λz h=>adD h λP h=>xl_ h λj h=>?_
 show oA 18e3 λg h=>?_;show oA 18e3 λf h=>?_;show oA 18e3 λl h=>?_;show oA 18e3 λt hz=>?_;repeat clear h
 cases jv g;cases jv f;cases I.fZ l;cases I.fZ t;exact oQ hz λid x h=>by cases jv h;exact .mk h1 h2 h3 c
def ai2:∀{hs:D q0},Nn sc s hs=true->FH sc hs s:=by
 induction s with
 |aQ=>exact λh=>kg h .aQ
 |aP q s ih=>
  obtain⟨e,o,b⟩:=q;exact λh=>lU h λa hs h=>by
   obtain(⟨C,i,B,p⟩):=a;exact .aP (ai1 7e0) (ih 7e5)
universe e
section
variable{ih:Ih}{d k:I}{sc:cC}
def ai3{ts:50e8}:∀{ns:D I},Nl ts=G ns->ts=ns.aj .n:=by
 induction ts with
 |aQ=>intro ns h;cases h;rfl
 |aP t l x=>
  intro ns h;cases t with
  |n k=>
   (show aM (aq.ha.mp h) λm h1 s=>?_;subst s);rw[x h1];rfl
  |_=>exact nS h
def Vz{α:Type}{o:29e6}{p}(h:lp o p=true):∃a,o=11e3/\p a=true:=pK (C:=λo=>∃a,o=11e3/\p a=true) h λa h=>⟨a,H,h⟩
def ai4(apz:14e3){apq E:PySem.aZ}{t:Internal.apq}{e:apw}{aT:dz}{p:Ih}(h:Nm 18e1 sc apq E t e=true)(F:MS):JS d sc (.pN [apq] E aT) F (131 (rS ih e F).aE (m0 (jO p 3 t v F))):=by
 show oE (Vx ih e F) λfz q=>?_;rw[q];exact oQ h λs r h=>Rd h λn h=>adB h λx a it b h=>Vv apz (C:=λE=>(Bj E λm m cs aT=>s==4e6&&(146 sc s&&(r.iF==aT.iF&&!(cs.bp.fN λ(n,k)=>n==s&&(k== .cU||k== .dk)))))=true->JS d sc (.pN [.dq s r] E aT) F (131 (tC ih fz (.iD x a it b) F).aE (m0 (jO p 3 (.n n) v F)))) 7e0 (λl apq c o cs aT g1 g2 g3 w i h=>
  ail (ih:=ih) (d:=d) (k:=3) (rl:=λvs j F=>ih (.mt x a b vs 0 j) F) g1 g2 g3 w (Co (jv 7e5) (al.Vr _ _▸ .a2 27e9)) (ba 7e0).1 (27e4).1 (al.w7 _▸(27e4).2) λvs j aR u=>apz (.mt x a b vs 0 j) aR k _ _ _ _ _ _ _ i u) 7e5
def ai5(apz:14e3)(w:nV)(hX:vX){S:ck}{s:Internal.S}(h:Vp 18e1 sc S s=true)(F:MS):JS d sc S F (A5 ih s F):=by
 cases s with
 |bx t e=>
  exact adt h λu E aT h=>tE h λapq h=>by
   cases m:vO E with
   |false=>rw[m]at h;exact(apz (.x e) F).2 k sc apq E t aT ih h
   |true=>
    rw[m]at h;show oA 18e3 λh1 h=>?_;show aM (Vz h) λr p h=>?_;cases r with
    |L=>exact agS (apz.x h1) (aiZ apz w 3 7e0) 7e5 m p
    |G l=>
     revert h1 p;exact tG h λx x x h=>tG h λx x x h=>tt_ h λts h=>by
      show aM (Vz h) λns v h=>?_;rw[ai3 v];cases fo (ba h).1;exact λh1 p=>agT (k:=1) (apz.x h1) p 27e9 (fo 31e9)
 |ex e=>exact adx h λx x h=>aga (apz.x 7e0 F) 7e5
 |bj o=>
  cases o with
  |L=>exact KG h λx x h=>xP h age
  |G e=>exact KG h λx x h=>pK h λx h=>agd (apz.x h F)
 |bC t a b=>exact adv h λx x x x h=>agg (apz.t 7e5 F) (apz.b 27e9) (apz.b 31e9)
 |lO t b=>exact Q4 h λx x x x h=>kg 7e5 (TF (TE (apz.t 27e9 F) (apz.b 31e9) λaR=>(apz (.s (.lO t b)) aR).2 k sc _ _ _ _ H 27e9 31e9))
 |mr n i b=>
  exact adu h λx x x x x h=>kg 7e5 (by
   show oA (ba 7e0) λh1 h=>?_
   show oA 18e3 λh2 h=>?_
   exact ag8 (rl:=λit F=>ih (.gj n it 0 b) F) (Vt apz h2) (Vu 7e5) λit aR q=>apz (.gj n it 0 b) aR k sc _ _ h1 q 7e0)
 |kJ e=>exact adw h λx x x h=>xP 7e5 (pK 7e0 λx h=>ah1 hX (apz.x h F))
 |AP b hs=>exact Q7 h λx x x x x h=>kg 7e5 (kg 27e9 (lU (27e4).2 λx x g=>ah7 hX (apz.b (27e4).1) (ai2 g)))
 |xh b f=>exact Q7 h λx x x x x h=>kg 7e5 (kg 27e9 (lU (27e4).2 λx x g=>aia (apz.b (27e4).1) (apz.b g)))
 |AQ=>exact ady h λx x=>agf
def ai6(apz:14e3)(v:nV)(hX:vX)(u:∀fz,∀x:Fx,qX ih fz d x){c:aq Ih}{z:al}{tk:Tk}(P:∀f as,tk≠ .aW f as)(F:MS):iI d tk F (on ih c z tk F):=by
 cases tk with
 |x e=>
  show⟨λk sc E h=>?_,λk sc apq E t aT R h=>?_⟩
  ·cases k with
   |i4=>cases h
   |hH k=>
    refine 43 E (ci (λa a=>mx (rS ih e F)) e F);rw[Vw];exact Vy apz v u h F
  ·refine JS d sc _ F ((ci (λa a=>mx (rS ih e F)) e F).aE _);rw[Vw];exact ai4 apz h F
 |t e=>
  intro k sc E h;cases k with
  |i4=>cases h
  |hH k=>
   refine JT d sc E F (mw (λa a=>(Km ih e F).aE λb F=> 7 (.b b)) e F);rw[aiW];exact aiY apz v u h F
 |s s=>
  show⟨λk sc S h=>?_,λk sc apq B t b e h1 h2=>?_⟩
  ·cases k with
   |i4=>cases h
   |hH k=>exact ai5 apz v hX h F
  ·subst e;exact TE (apz.t h1 F) (apz.b h2) λaR=>(apz (.s (.lO t b)) aR).2 k sc _ _ _ _ H h1 h2
 |ss l=>
  intro k sc B h;cases k with
  |i4=>cases h
  |hH k=>
   cases l with
   |aQ=>exact kg h af8
   |aP s b=>exact lU h λa a h=>af9 ((apz (.s _) F).1 k sc _ 7e5) (apz.b 7e0)
 |aW f as=>exact bL H (P f as)
 |gj r it i b=>
  intro k sc apq B h1 h2 h3;exact Cs (kt:=0) (rb:=λF=>ih 12e5 F) (rl:=λF=>ih (.gj r it (i+1) b) F) (CL (ih:=ih) (d:=d) h1 0) (CM h1 h2) (apz.b h3) λaR=>apz (.gj r it (i+1) b) aR k sc apq B h1 h2 h3
 |mt x r p it i j=>
  intro k kl w app apq o cs aT h1 h2;cases r with
  |n m=>
   exact(oQ (C:=λapq=>CJ 18e1 kl w apq o x (.n m) p=true->JE d kl (132 w apq app o cs) it i j F _) h1 λa a g h0=>ahj (rl:=λF=>ih (.mt x (.n m) p it (i+1) j) F) (jv (ba (ba g).1).1) (ba (ba g).1).2 (397 (apz.t h) (ba (ba g).2).1) (apz.x (ba (ba g).2).2) (λs q=>by subst q;cases h2) λaR=>apz (.mt x (.n m) p it (i+1) j) aR k _ _ _ _ _ _ _ h0 h2) h1
  |t l=>exact ahk (w1:=159) (w2:=144)
universe e
def dfO(P:aw)(fd:jB):D (aH×az):=(sb P fd.zO).f3
def CN(q:aH×az):2e4:=match q.2.be with
 | .cG xs _=>xs.f3
 |_=>[]
def VA(P:aw)(apB:iz)(A:df)(s:ae)(u:I->af)(fn:Fn)(fd:jB)(j:I):6e1×b4 (284 af)×ae:=
 rn apB A (DL fd ⟨(D.dR (fn.ps.U-fn.ds.U+j)).aj u,[]⟩) ((dfO P fd).aj (·.2)) s
def VB(P:aw)(s:ae)(u:I->af)(fn:Fn)(fd:jB)(j:I):6e1×b4 (284 af)×ae:=
 ((dfO P fd).aj λq=>s.M.ao q.1=G q.2,.b8 ((fn.ps.aj nm).fw ((D.dR (fn.ps.U-fn.ds.U+j)).aj u++((dfO P fd).tM CN).fh j)),s)
def Nu{α:Type}(P:aw)(p:I×Fn)(f:jB->I->α):8e4:=(lD P p.1).ak [] λfd=>(D.dR (p.2.ds.U+1)).aj (f fd)
set_option maxHeartbeats 0 in
theorem ai7(P:aw)(apB:iz)(A:df)(s:ae)(u:I->af):ft.aj (λp=>Nu P p (VA P apB A s u p.2))=ft.aj λp=>Nu P p (VB P s u p.2):=ar
def ai8(P:aw):ft.aj (λp=>p.2.ds.aj xI)=ft.aj λp=>(lD P p.1).ak [] λfd=>((dfO P fd).tM CN).aj r9:=ar
def ai9(P Q:aw):(ft.aj λp=>lD P p.1)=ft.aj λp=>lD Q p.1:=ar
def CO(fd:jB)(fn:Fn):Prop:=fd.br.zB=false/\fd.br.zC=false/\fd.br.d8= .jJ/\fd.g8=iB/\fd.rk=[]/\fd.jC=mU/\
 (fd.br.bp.aj (·.1)).dS/\(∀app∈fd.br.bp,app.2≠ .eG)/\fn.ps.dS/\(∀p∈fn.ps,fd.br.bp.bY (nm p)=12e3\/fd.br.bp.bY (nm p)=18e8)/\fn.ds.U<=fn.ps.U
def VC(fd:jB)(fn:Fn):rg (CO fd fn):=by unfold CO;infer_instance
def codeB(P:aw)(fd:jB):al:=(sb P fd.dG).fN λp=>match p.2.be with
 | .cn vs=>(match(vs[1]? :12e4)with
  |G (af.ag q _)=>q==fd.pb
  |_=>false)
 |_=>false
def VD(fd:jB):11e1:=match fd.cW with
 | .mS B=>B
 |_=>[]
def okF(P:aw)(p:I×Fn):al:=(lD P p.1).fN λfd=>codeB P fd&&(@bJ (CO fd p.2) (VC fd p.2))
set_option maxHeartbeats 0 in
theorem VE(P:aw):ft.dI (okF P)=true:=ar
def aja(P:aw):ft.aj (λp=>(lD P p.1).aj (·.cW))=ft.aj λp=>(lD P p.1).aj λfd=> .mS (VD fd):=ar
def ajb(P:aw):ft.dI (λp=>Tt 8e0 7e2)=true:=ar
def ajc(P:aw):ct.dI (λp=>Tt 8e0 7e2)=true:=ar
def ajd(h:lD P a=G fd):∃o,(a,o)∈8e0/\o.be= .mi fd:=by
 (show aM (aq.k7.mp h) λs e h=>?_;obtain⟨b,o⟩:=s);cases(I.fZ (D.find?_some (p:=λp:aH×az=>I.bX p.1 a) e):b=a);show⟨o,D.uN e,?_⟩;unfold Vq at h;cases hd:o.be with
 |mi f=>rw[hd]at h;exact bB _ 52e5
 |_=>rw[hd]at h;exact nN h
def kA(s:d<=p)(h:u+(d-(u+d-p))=p):p-d+(u+d-p)=u/\u+d-p<d+1:=by
 have h1:p<=u+d:=I.dV (I.hZ h.bh) (I.agt (I.Se ..) _);have h2:u<=p:=I.dV (I.tR ..) (I.hZ h);exact⟨by rw[I.BQ,I.sub_add_sub_cancel h1 s,I.add_sub_cancel],I.lt_succ_of_le (I.sub_le_iff_le_add'.bl (I.TR h2 d))⟩
def aje(h:codeB P fd=true)(A:253 hp):hp.zD fd.dG fd.pb:=by
 (show aM (51e8 h) λx a h=>?_;obtain⟨c,o⟩:=x);show oA (yb a) λe m=>?_;dsimp only at h e;cases hd:o.be with
 |cn vs=>
  rw[hd]at h;dsimp only at h;cases s:vs[1]? with
  |L=>rw[s]at h;exact nF h
  |G u=>
   rw[s]at h;cases u with
   |ag q t=>exact⟨c,o,vs,t,e,A _ m,hd,s.aU (by rw[jv h])⟩
   |_=>exact nF h
 |_=>rw[hd]at h;exact nF h
def ajf(u:af)(us:2e4):(D.dR us.U).aj (λi=>us[i]?.ge u)=us:=
 D.ext_getElem (by rw[D.fq,D.VF]) λi h1 h2=>by rw[D.getElem_map,D.getElem_range,D.ic h2];rfl
def ajg(w:aw)(hm:(a,fn)∈ft)(n:∀P,lD P a=G fd)(r:fn.ds.U<=fn.ps.U)(s:ae)(P:aw)(apu:253 s.M)(J:aV)(vs:0e0)(us:2e4)(b:169 vs)
  (hl:(vs++fn.jp vs.U).U=fn.ps.U):∃m,cw J s.M (vs++fn.jp vs.U) m/\BindsTo s fd (61 us) ((fn.ps.aj nm).fw m):=by
 have hd:=109 (ai8 P) hm;rw[n P]at hd;have hd:fn.ds.aj xI=((dfO P fd).tM CN).aj r9:=hd;have p:=iw b;have e:vs.U+fn.ds.U-fn.ps.U=us.U+fn.ds.U-fn.ps.U:=by rw[p]
 have e2:fn.jp vs.U=(((dfO P fd).tM CN).aj r9).fh (us.U+fn.ds.U-fn.ps.U):=by
  refine D.aj xI _=_;rw[D.VG,hd,e]
 have k:us.U+(fn.ds.U-(us.U+fn.ds.U-fn.ps.U))=fn.ps.U:=by
  rw[p,<-D.sf,<-D.fq xI,<-D.hN];exact hl
 have k1:fn.ps.U-fn.ds.U+(us.U+fn.ds.U-fn.ps.U)=us.U:=(kA r k).1;have k2:us.U+fn.ds.U-fn.ps.U<fn.ds.U+1:=(kA r k).2;rw[e2];show⟨_,b.lV ((RA _).fh _),λapB A E Q x=>?_⟩;have z:=109 (ai7 P apB A s λi=>us[i]?.ge .L) hm;dsimp only[Nu]at z;rw[n P]at z;have z:=109 z (D.CQ.bl k2);unfold VA VB at z;rw[k1,ajf]at z;show sU _ z (λq h=>?_) x;(show aM (D.sp.mp h) λq x v=>?_;subst v);exact apu q (yb (aq.mem_toList.mp x)).2
def CR(s:aw)(h:lk ft a=G fn):∃fd B,(∀P,lD P a=G fd)/\fd.cW= .mS B/\yo a fn fd B:=by
 have hm:=iW h;show aM (51e8 (243 (VE s) hm)) λfd e z=>?_;have x:∀P,lD P a=G fd:=λP=>(109 (ai9 P s) hm).aU e;have b:=109 (aja s) hm;rw[e]at b;have r:fd.cW= .mS (VD fd):=aq.G.cE b;have g:CO fd fn:= @fo _ (VC ..) (ba z).2;show⟨fd,_,x,r,λP=>?_,λh P A=>aje ?_ A,r,g.1,g.2.1,g.2.2.1,g.2.2.2.1,g.2.2.2.2.1,g.2.2.2.2.2.1,g.2.2.2.2.2.2.1,g.2.2.2.2.2.2.2.1,g.2.2.2.2.2.2.2.2.1,g.2.2.2.2.2.2.2.2.2.1,ajg s hm x g.2.2.2.2.2.2.2.2.2.2⟩
 ·exact ajd (x P)
 ·show aM (51e8 (243 (VE P) hm)) λk p z=>?_;rw[aq.G.cE ((x P).bh.aU p)];exact(ba z).1
set_option backward.match.sparseCases true
def VH(P:aw):nE.dI (λp=>(t8 8e0 p.1).fN (·.ys)&&Th 8e0 p.1&&Cc 8e0 p.1)=true:=ar
def ajh(P:aw):(nE.aj λp=>iH 8e0 7e2 "__getattribute__")=nE.aj (309 (G (.bI "object.__getattribute__"))):=ar
def aji(P:aw):(nE.aj λp=>iH 8e0 7e2 "__getattr__")=nE.aj (309 L):=ar
def ajj(P:aw):(nE.aj λp=>iH 8e0 7e2 "__setattr__")=nE.aj (309 55e4):=ar
def ajk(P:aw):(nE.aj λp=>(Kc.oo (kb p.1)).aj λn=>iH 8e0 7e2 4e6)=nE.aj λp=>(Kc.oo (kb p.1)).aj (309 L):=ar
def CS:D (I×al×D (I×I)):=ct.oo λp=>!p.2.1
def VI(P:aw):(CS.aj λp=>p.2.2.aj λq=>(iH 8e0 7e2 (nm q.1),yq 8e0 (.N q.2)))=CS.aj λp=>p.2.2.aj λq=>(G (47 q.2),G 47e2):=ar
def VJ:CS.dI (λp=>(lk nE p.1).iq)=true:=ar
def VK(h:lk nE C=G l):vL C:=by
 have hm:=iW h;have h1:∀P,(t8 8e0 C).fN (·.ys)=true/\Th 8e0 C=true/\Cc 8e0 C=true:=λP=>by
  have:=243 (VH P) hm;simp only[al.lb]at a9;exact⟨a9.1.1,a9.1.2,a9.2⟩
 show⟨λP=>?_,λP=>109 (ajh P) hm,λP=>109 (aji P) hm,λP=>109 (ajj P) hm,λP=>(h1 P).2.1,λP n s=>?_⟩
 ·have:=(h1 P).1;cases q:t8 (KL P) C with
  |L=>rw[q]at a9;cases a9
  |G cd=>rw[q]at a9;exact⟨cd,H,a9⟩
 ·have h2:=109 (ajk P) hm;show D.gG.mp h2 n (D.rA.bl ⟨?_,s⟩);unfold kb at s;show aM (D.p7.mp (al.mB.mp s).1) λk x e=>?_;rw[<-I.fZ e];exact x
def yT(h:nJ C=G (false,ms)):(C,false,ms)∈CS:=D.rA.bl ⟨iW h,H⟩
def VL(h:xH C n=G f):∃s,nJ C=G (false,s)/\lk s n=G f:=by
 (show aM (aq.k7.mp h) λx e h=>?_;obtain⟨b,s⟩:=x);cases b with
 |true=>exact nN h
 |false=>exact⟨s,e,h⟩
def ajl:nV:=by
 have hm:∀C n f,xH C n=G f->vL C:=λC n f h=>by
  show aM (VL h) λs e a=>?_;have:=243 VJ (yT e);show oE (aq.mT.mp a9) λl x=>?_;exact VK x
 show⟨λC n h=>?_,λC n f h=>⟨hm C n f h,⟨λP n f h=>?_⟩⟩⟩
 ·unfold kb at h;show aM (51e8 (48e2).2) λl e a=>?_;exact VK e
 ·show aM (VL h) λs e b=>?_;have h1:=109 (VI P) (yT e);have h2:=109 h1 (iW b);exact⟨bB kC.pZ h2,bB kC.snd h2⟩
def ajm:nm 166= "__init__" :=ap
set_option tactic.hygienic true in
theorem VM(h:nJ C=G (false,ms))(x:lk ms 166=G i):Te C i:=by
 have h1:=243 VJ (yT h);show oE (aq.mT.mp h1) λl a=>?_;have r:=D.rA.mp (yT h);have h2:∀P,Cc 8e0 C=true:=λP=>by
  have:=243 (VH P) (iW a);simp only[al.lb]at a9;exact a9.2
 have h3:∀P,iH 8e0 2e8 (nm 166)=G (47 i)/\yq 8e0 (.N i)=G 47e2:=λP=>by
  have h1:=109 (VI P) (yT h);have h2:=109 h1 (iW x);exact⟨bB kC.pZ h2,bB kC.snd h2⟩
 show⟨λP=>?_,h2,λP=>ajm▸(h3 P).1,λP=>(h3 P).2⟩;have s:=h2 P;unfold Cc at s;cases e:(KL P).bY C with
 |L=>rw[e]at s;cases s
 |G o=>
  rw[e]at s;obtain(⟨oc,b,dt,sl⟩):=o;cases dt with
  |bi cd=>exact⟨oc,b,cd,sl,Tb e⟩
  |_=>exact bL s al.lK
set_option backward.match.sparseCases false
def l4:D I:=[38,51,63,75]
def ajn(P:aw):(l4.aj λC=>iH 8e0 2e8 "__init__")=l4.aj (309 (47 35)):=ar
def ajo(P:aw):yq 8e0 (.N 35)=G 47e2:=ar
def ajp(P:aw):(l4.aj λC=>iH 8e0 2e8 "__setattr__")=l4.aj (309 55e4):=ar
def ajq(P:aw):(l4.aj λC=>iH 8e0 2e8 20e5)=l4.aj (309 L):=ar
def ajr(P:aw):l4.dI (λC=>(t8 8e0 C).fN (·.ys))=true:=ar
def ajs(P:aw):(l4.aj λC=>iH 8e0 2e8 "__getattr__")=l4.aj (309 L):=ar
def ajt(P:aw):(l4.aj λC=>iH 8e0 2e8 "__getattribute__")=l4.aj (309 (G (.bI "BaseException.__getattribute__"))):=ar
def VN(oz:af):refuseLoop oz "__setattr__" yJ=b8 ():=PySem.apu.store_Exception.passes oz
def aju(h:ai)(P:aw)(A:253 h):sA 38 h:=by
 have e:h.ao 38=G (um i5 i5 38 37 [22e7] yJ true [] [.N 51,.N 63,.N 75] false L L (47 22) L (14 i5 196) (14 i5 204) 12e0 "Exception.__new__"):=pe A 38 _ ar;show⟨⟨_,_,_,_,_,_,_,_,_,_,_,e,ap,ap,ap,ap,λoz=>by rw[VO];exact VN oz,2e6⟩,λoc x cd sl q=>?_⟩;rw[e]at q;cases q;exact⟨ap,ap,λa s=>by
  have:I.bX a 38=false:=by cases z:I.bX a 38 with|false=>rfl|true=>exact bL (I.fZ z) s
  rw[a9];simp[s]⟩
def Nv{C apC:aH}{nm q:am}{k0 k1 k2 k3 k5:12e4}(b:C≠38)(e:h.ao C=G (um nm q C apC [32e9] (32e9::yJ) true [] [] false L L k0 k1 k2 k3 k5 "Exception.__new__")):sA C h:=by
 show⟨⟨_,_,_,_,_,_,_,_,_,_,_,e,ar,ar,ar,ar,λoz=>by rw[VO,VO];exact VN oz,21e6⟩,λoc x cd sl q=>?_⟩;rw[e]at q;cases q;clear e;show⟨ar,ar,λa s=>?_⟩;by_cases z:a=C
 ·subst z;rw[I.qI];simp
 ·have:I.bX a C=false:=by cases app:I.bX a C with|false=>rfl|true=>exact bL (I.fZ app) z
  rw[a9];simp[s,z]
def ajv(h:nJ C=G (true,ms)):C∈l4:=by
 have h1:(C,true,ms)∈ct.oo (λp=>p.2.1):=D.rA.bl ⟨iW h,H⟩;have h2:(ct.oo (λp=>p.2.1)).aj (·.1)=l4:=ar;rw[<-h2];exact D.ow (f:=(·.1)) h1
def ajw{C:I}(h:C∈l4):un C:=by
 show⟨λs P A=>?_,λP=>109 (ajn P) h,ajo,λP=>109 (ajp P) h,λP=>109 (ajq P) h,λP=>?_,λP=>109 (ajs P) h,λP=>109 (ajt P) h⟩
 ·simp only[l4,D.eR,D.mn,mo]at h;rcases h with H|rfl|rfl|rfl
  ·exact aju s P A
  ·exact Nv (nm:=qk) (q:=qk) (apC:=50) (k0:=47 42) (k1:=L) (k2:=14 qk 225) (k3:=14 qk 233) (k5:=12e0) ap (pe A 51 _ ar)
  ·exact Nv (nm:=ql) (q:=ql) (apC:=62) (k0:=47 54) (k1:=L) (k2:=14 ql 241) (k3:=14 ql 249) (k5:=12e0) ap (pe A 63 _ ar)
  ·exact Nv (nm:=qm) (q:=qm) (apC:=74) (k0:=47 66) (k1:=L) (k2:=14 qm 257) (k3:=14 qm 265) (k5:=12e0) ap (pe A 75 _ ar)
 ·have:=243 (ajr P) h;cases q:t8 (KL P) C with
  |L=>rw[q]at a9;cases a9
  |G cd=>rw[q]at a9;exact⟨cd,H,a9⟩
def VP:vX:=λC h=>by
 (show aM (51e8 h) λs e h=>?_;obtain⟨b,x⟩:=s);cases b with
 |true=>exact ajw (ajv e)
 |false=>exact nF h
def ajx(h:∀P,lD P 35=G fd)(x:fd.cW= .mS B)(s:aw):M4 fd.br B:=by
 have e:lD s 35=G (zN (dj 2 0) S6 (.L) (.ag S4 194) (.N 34)):=ar;have:=(h s).bh.aU e;cases a9;have a:uH (dj 2 0)=B:=by cases x
 subst a;exact⟨ar,ar,ar,ar,ar⟩
section
variable{α β:Type}
def ajy(o:6e1)(r:54e0):h9 (R.ch o r)=R.ch o (h9 r):=by cases r<;>rfl
universe e
def ajz(r:3e2):q2 (mx r)=r:=by
 unfold q2 mx;cases r<;>simp[R.aE,R.ch,R.Y]
section
variable{d:I}{tk:Tk}{F:MS}
def Nw{p:Prop}(h:p->iI d tk F r):iI d tk F (r.ch [p]):=by
 have pp:∀{α β:Type} {x:Fx} {J:aV} {s:ae} {r:3e3} {bq:17e8} {Q:12e2} {EE:0e5},11 (r.ch [p])->p:=λP=>(26e9).1 p (D.dP ..);cases tk with
 |x e=>
  show⟨λk sc E l x J s Q EE Y m R P=>?_,λk sc apq E t aT C l x J s Q EE Y m hz n R P=>?_⟩
  ·have P:10 ((r.ch [p]).aE _):=P;rw[tZ]at P;exact(h (pp P)).1 k sc E l x J s Q EE Y m R 26e3
  ·have P:64 (((r.ch [p]).aE _).aE _) RF:=P;rw[tZ,tZ]at P;exact(h (pp P)).2 k sc apq E t aT C l x J s Q EE Y m hz n R 26e3
 |t e=>
  intro k sc E l x J s Q EE Y m R P;have P:64 ((r.ch [p]).aE _) RB:=P;rw[tZ]at P;exact(h (pp P)) k sc E l x J s Q EE Y m R 26e3
 |s ss=>
  show⟨λk sc S l x J s Q EE Y m hz n R P=>?_,λk sc apq B t b e h1 h2 x J s Q EE Y m hz n R P=>?_⟩
  ·exact(h (pp P)).1 k sc S l x J s Q EE Y m hz n R 26e3
  ·exact(h (pp P)).2 k sc apq B t b e h1 h2 x J s Q EE Y m hz n R 26e3
 |ss b=>
  intro k sc B l x J s Q EE Y m hz n R P;exact(h (pp P)) k sc B l x J s Q EE Y m hz n R 26e3
 |aW f as=>
  show⟨λx J s u us Q EE Y R g apA P=>?_,λx J s Q EE P=>?_⟩
  ·have P:10 ((r.ch [p]).aE _):=P;rw[tZ]at P;exact(h (pp P)).1 x J s u us Q EE Y R g apA 26e3
  ·have P:10 ((r.ch [p]).aE _):=P;rw[tZ]at P;exact(h (pp P)).2 x J s Q EE 26e3
 |gj app it i b=>
  intro k sc apq B h1 h2 h3 x dB aB W s Q EE o wr Y m hz n R apv a b c P;rw[ajy]at P;exact(h (pp P)) k sc apq B h1 h2 h3 x dB aB W s Q EE o wr Y m hz n R apv a b c 26e3
 |mt e app apr it i j=>
  intro k kl V A apq apD cs aT h1 h2 x dB aB h0 s Q o wr apw Y m R apv a b c P;have apE:p:=by
   cases r with
   |aS a F ob=>
    cases a with
    |f q=>cases q with
     |next=>exact P.1 p (D.dP ..)
     |bj v=>exact P.ak
    |v v=>exact P.ak
    |b v=>exact P.ak
   |a7 a F ob=>exact P.ak
   |no w=>exact P.ak
  show(h apE) k kl V A apq apD cs aT h1 h2 x dB aB h0 s Q o wr apw Y m R apv a b c ?_;clear h;cases r with
  |aS a F ob=>
   cases a with
   |f q=>cases q with
    |next=>exact⟨λq z=>P.1 q (54 z),P.2⟩
    |bj v=>exact P.ak
   |v v=>exact P.ak
   |b v=>exact P.ak
  |a7 a F ob=>exact P.ak
  |no w=>exact P.ak
def VQ:iI d tk F 18e9:=by
 have:(R.no w:2e9)=R.ch [fR] 18e9:=H;rw[a9];exact Nw λh=>h.ak
def av:PP:=λd tk O T bH=>∀o1 o2,iI d tk 29e4 (bH.mY o2 [])
def R.apG{α:Type}(o:2e1)(r:3e3):3e3:=match r with
 | .aS a F ob=> 20 a F.O F.T o ob
 | .a7 i F ob=> .a7 i ⟨F.O,F.T,o⟩ ob
 | .no w=> 18e9
def gP(R:160 (62 o)):160 (62 o'):=⟨R.d7,R.cR,R.O,R.nd,R.gy,R.up,R.bp,R.bH,R.hK,R.b2,R.hj,R.gz,R.fx,R.dC,R.os,R.cV⟩
def ajA{α β:Type}{x:Fx}{J:aV}{s:ae}{r:3e3}{o:2e1}{bq:17e8}{Q:12e2}{EE:0e5}(P:27e7):11 (r.apG o):=by
 cases r with
 |aS a F ob=>exact⟨P.1,λaB s' u R apv r=>P.2 aB s' u 26e4 apv r⟩
 |a7 i F ob=>exact⟨P.1,λaB s' u h R apv r=>P.2 aB s' u h 26e4 apv r⟩
 |no w=>exact P
def nZ{α β:Type}{x:Fx}{J:aV}{s:ae}{r h:3e3}{o:2e1}{bq:17e8}{Q:12e2}{EE:0e5}(P:27e7)(e:h=r.apG o):11 h:=e▸ajA P
def ajB{bH:fj}{O:1e0}{T:0e1}{o1 o2 apx o4:2e1}(h:iI d tk 29e4 (bH.mY o2 [])):iI d tk (62 apx) (bH.mY o4 []):=by
 cases tk with
 |x e=>
  show⟨λk sc E p x J s Q EE Y r R P=>h.1 k sc E p x J s Q EE Y r 26e4 (nZ (o:=o2) P ?_),λk sc apq E t aT apu p x J s Q EE Y r hz w R P=>h.2 k sc apq E t aT apu p x J s Q EE Y r hz w 26e4 (nZ (o:=o2) P ?_)⟩
  ·cases bH with
   |Y a ob m=>cases a<;>rfl
   |a7 i ob m=>rfl
  ·have A:∃n,t= .n n:=oQ (C:=λapp=>∃n,t= .n n) p λapp app h=>Rd h λn app=>⟨n,H⟩;obtain⟨n,H⟩:=A;cases bH with
   |Y a ob m=>cases a<;>rfl
   |a7 i ob m=>rfl
 |t e=>
  intro k sc E p x J s Q EE Y r R P;show h k sc E p x J s Q EE Y r 26e4 (nZ (o:=o2) P ?_);cases bH with
  |Y a ob m=>cases a<;>rfl
  |a7 i ob m=>rfl
 |s ss=>
  show⟨λk sc S p x J s Q EE Y r hz w R P=>h.1 k sc S p x J s Q EE Y r hz w 26e4 (405 P),λk sc apq B t b e h1 h2 x J s Q EE Y r hz w R P=>h.2 k sc apq B t b e h1 h2 x J s Q EE Y r hz w 26e4 (405 P)⟩
 |ss b=>
  intro k sc B p x J s Q EE Y r hz w R P;exact h k sc B p x J s Q EE Y r hz w 26e4 (405 P)
 |aW f as=>
  show⟨λx J s u us Q EE Y R g apA P=>h.1 x J s u us Q EE Y 26e4 g apA (nZ (o:=o2) P ?_),λx J s Q EE P=>?_⟩
  ·cases bH with
   |Y a ob m=>cases a<;>rfl
   |a7 i ob m=>rfl
  ·have:=h.2 x J s Q EE (nZ (o:=o2) P (by
    cases bH with
    |Y a ob m=>cases a<;>rfl
    |a7 i ob m=>rfl))
   cases f with
   |aa v=>cases v<;>exact a9
   |Z i=>exact a9
   |_=>exact a9
 |gj z it i b=>
  intro k sc apq B h1 h2 h3 x dB aB apw s Q EE l wr Y r hz w R apv a b c P;exact h k sc apq B h1 h2 h3 x dB aB apw s Q EE l wr Y r hz w 26e4 apv a b c (405 P)
 |mt e z apz it i j=>
  intro k kl W apr apq apE cs aT h1 h2 x dB aB h0 s Q l wr apD Y r R apv a b c P;show h k kl W apr apq apE cs aT h1 h2 x dB aB h0 s Q l wr apD Y r 26e4 apv a b c ?_;clear h;cases bH with
  |Y a ob m=>
   cases a with
   |f q=>cases q with
    |next=>exact⟨P.1,λaB s' R apv=>P.2 aB s' 26e4 apv⟩
    |bj v=>exact P.ak
   |v v=>exact P.ak
   |b v=>exact P.ak
  |a7 a F ob=>exact P.ak
def VR(o:fj)(bE:2e1)(p:Prop):o.mY bE [p]=(o.mY bE []).ch [p]:=by cases o<;>rfl
universe e
def Ny:∀(l:1e0) (a o:aps),mu (l++[a]) l.U o=l++[o]
 | [],_,_=>rfl
 |b::l,a,o=>bB (b:: ·) (Ny l a o)
def Nz(l:1e0)(a:aps)(T bE):MS.dL ⟨l++[a],T,bE⟩ l.U=11e3:=by
 unfold MS.dL;rw[28e5,I.jj];rfl
def VS:kb 789 31=true/\kb 789 184=true:=ap
def ajC(P:PP)(d:I)(O:1e0)(v w:V)(T:0e1):apy P 12 (d+1) (22 772 [18e6,v,w]) (159 O [] T)= 123 (.v 0e6) (159 O [(31,v),(184,w)] T):=by
 have s:qB (159 O [] [(164,18e6),(31,v),(184,w)]) 18e6 31 v= .Y () (159 O [(31,v)] [(164,18e6),(31,v),(184,w)]):=by
  unfold qB;dsimp only;rw[Nz];dsimp only[gN];rw[VS.1];unfold MS.cM;rw[Ny];rfl
 have h:qB (159 O [(31,v)] [(164,18e6),(31,v),(184,w)]) 18e6 184 w= .Y () (159 O [(31,v),(184,w)] [(164,18e6),(31,v),(184,w)]):=by
  unfold qB;dsimp only;rw[Nz];dsimp only[gN];rw[VS.2];unfold MS.cM;rw[Ny];rfl
 have e1:apy P 12 (d+1) (22 772 [18e6,v,w]) (159 O [] T)=mx (((278 (m0 (278 (qB (159 O [] [(164,18e6),(31,v),(184,w)]) 18e6 31 v)))).aE λr F=>rK r F (apy P 10 d (.ss [26 184 184]) F)).aE λr bQ=>gA r 130 λv=> .Y v ⟨bQ.O,T,bQ.bE⟩):=cH;have e2:apy P 10 d (.ss [26 184 184]) (159 O [(31,v)] [(164,18e6),(31,v),(184,w)])=(278 (m0 (278 (qB (159 O [(31,v)] [(164,18e6),(31,v),(184,w)]) 18e6 184 w)))).aE λr F=>rK r F (apy P 9 d (.ss []) F):=cH;rw[h]at e2;have e3:apy P 10 d (.ss [26 184 184]) (159 O [(31,v)] [(164,18e6),(31,v),(184,w)])= 57 (159 O [(31,v),(184,w)] [(164,18e6),(31,v),(184,w)]) []:=e2;rw[e1,s];generalize hr:apy P 10 d (.ss [.bx (.a (.l 164) 184) (.l 184)]) ⟨O++[.bu 789 [(31,v)]],[(164,.Z O.U),(31,v),(184,w)],[]⟩=r at e3;have e4:∀(apu:A->MS->2e9),(278 (m0 (278 (R.Y () (159 O [(31,v)] [(164,18e6),(31,v),(184,w)]))))).aE apu=278 (apu 24e4 (159 O [(31,v)] [(164,18e6),(31,v),(184,w)])):=λx=>rfl;rw[e4];refine mx ((278 (apy P 10 d (.ss [26 184 184]) _)).aE _)=_;rw[hr,e3];rfl
def ajD(P:aw):ft.dI (λp=>(qE p.2.cW).iq||No P p.1 p.2)=true:=ar
def ajE:ft.dI (λp=>(qE p.2.cW).QA||341 1396)=true:=ar
def VT{a:I}{fn:Fn}{F:MS}(h:lk ft a=G fn):kT F 26e0:=λP=>243 (ajb P) (iW h)
def VU{a:I}{q:al×D (I×I)}{F:MS}(h:nJ a=G q):kT F 26e0:=λP=>243 (ajc P) (iW h)
section
variable{ih:Ih}{d:I}{F:MS}
def VV(s:aw)(h:lk ft a=G fn)(x:qE fn.cW=L)(b:∀P,lD P a=G fd)(e:fd.cW= .mS B):fc 60 fd.br (.b B fn.cW)=true:=by
 have h1:=243 (ajD s) (iW h);dsimp only at h1;rw[x]at h1;have h1:No s a fn=true:=h1;unfold No at h1;rw[b s]at h1;dsimp only at h1;rw[e]at h1;exact h1
def ajF(apz:14e3)(h:lk ft a=G fn)(r:qE fn.cW=L)(m:(as++39e1).U=fn.ps.U):
  JC (d+1) 26e0 as F (B5 F (ih (.ss fn.cW) ⟨F.O,fn.ps.fw (as++39e1),F.bE⟩)):=by
 intro x J s u us Q EE Y R b e P;show jz (CR x.w.bU h) λfd B k p apv=>?_;exact afz apv m (apz.b (VV x.w.bU h r k p) _) x J s u us Q EE Y R b e P
def yU(d:I):Prop:=∀v u bQ,JC d (5 789) [v,29e8] bQ (.Y (.Z bQ.O.U) ⟨bQ.O++[175 (31,v) (184,29e8)],bQ.T,bQ.bE⟩)
def ajG:uH (eg 133)=[.pM (G (.jR (256 101 11 19) [yP,nL] [] (lq 11 96))) (lq 4 96)]:=ar
def ajH:qE va.cW=G (789,hX):=ar
def ajI(apz:14e3)(j:yU d)(r:lk ft a=G fn)(e:qE fn.cW=G q):JC (d+1) 26e0 as F (Kn ih q.2 q.1 as F):=by
 intro x J s u us Q EE Y R p m P;have h:=243 ajE (iW r);dsimp only at h;rw[e]at h;cases I.fZ h;have:lk ft 1396=G va:=ar;cases r.bh.aU a9;cases e.bh.aU ajH;show jz (CR x.w.bU a9) λfd B i v apv=>?_;have w:lD x.w.bU 1396=G (zN (eg 133) wW (.L) (.ag gh 2135) (.N 1395)):=ar;cases(i x.w.bU).bh.aU w;have b:uH (eg 133)=B:=by cases v
 rw[ajG]at b;subst b;cases as with
 |aQ=>exact P.ak
 |aP k as=>cases as with
  |aQ=>exact P.ak
  |aP n as=>cases as with
   |aP=>exact P.ak
   |aQ=>exact aiz apv H ar ⟨ar,apz.x (k:=50) ar⟩ ar ar ar (VU (q:=(false,[(166,772),(242,779),(148,786)])) ar) ar ar j x J s u us Q EE Y R p m P
def ajJ(apz:14e3)(n:dp=true->yU d)(p:lk ft a=G fn):JC (d+1) 26e0 as F (A2 ih dp fn as F):=by
 intro x J s u us Q EE Y R b r P;show fU P λm e=>?_;cases h:qE fn.cW with
 |L=>
  rw[h]at e;exact ajF apz p h (I.fZ m) x J s u us Q EE Y R b r e
 |G q=>
  rw[h]at e;exact fU e λhd k=>ajI apz (n hd) p h x J s u us Q EE Y R b r k
def ajK(apz:14e3)(m:nJ a=G q):JC (d+1) 26e0 as F (A3 ih a q as F):=by
 obtain⟨b,t⟩:=q;intro x J s u us Q EE Y R p k P;show kQ P (λe h=>?_) λe h=>eD h λi n c=>?_
 ·cases e;revert h;cases k with
  |aQ=>exact λP=>P.ak
  |aP r w=>cases w with
   |aP=>exact λP=>P.ak
   |aQ=>
    clear P;intro h;have j:lk ft 35=G Ql:=ar;show jz (CR x.w.bU j) λfd B l v apv=>?_;exact ahV (VP a (by unfold xC;rw[m];rfl)) apv H (ajx l v x.w.bU) x J s u _ Q EE Y R p (265 r) h
 ·cases e;clear h;exact Tf (VM m n) (f:=λo F=>rQ ih (5 i) (o::as) F) (λo aR=>(apz (22 i (o::as)) aR).1) x J s u us Q EE Y R p k c
def VW{C:153 V}{Q:0e5}{EE:0e5}(P:10 (vj ih dp f as F))
  (h1:∀a fn,lk ft a=G fn->10 (A2 ih dp fn as F)->C 26e0) (h2:∀a q,nJ a=G q->10 (A3 ih a q as F)->C 26e0)
  (h3:∀i k n v,18e7=G (.cV k (.Z n))->as=[v]->10 (vi n k v F)->C 15e9):C f:=by
 cases f with
 |aa u=>
  have P:10 (A0 29e8 134 λa=>(Kj a).ak (gN (nJ a) 131 λq=>A3 ih a q as F) λfn=>A2 ih dp fn as F):=P;show RQ P λa e h=>?_;cases e;cases b:Kj a with
  |G fn=>rw[b]at h;exact h1 a fn b h
  |L=>rw[b]at h;exact eD h λq r m=>h2 a q r m
 |Z i=>
  clear h2 h1;have P:10 (gN 18e7 133 λo=>QB o as F):=P;exact eD P λo p h=>by
   cases o with
   |cV k w=>cases w with
    |Z n=>cases as with
     |aQ=>exact h.ak
     |aP v as=>cases as with
      |aQ=>exact h3 i k n v p H h
      |aP=>exact h.ak
    |_=>exact h.ak
   |_=>exact h.ak
 |_=>exact P.ak
def ajL(apz:14e3)(w:dp=true->yU d):JC (d+1) f as F (vj ih dp f as F)/\∀(x:Fx) (J:aV) (s:ae) (Q:0e5) (EE:0e5),10 (vj ih dp f as F)->kT F f:=
 ⟨λx J s u us Q EE Y R b r P=>VW (C:=λf=>17 f u->_) P (λa fn h P b=>ajJ apz w h x J s u us Q EE Y R b r P) (λa q h P b=>ajK apz h x J s u us Q EE Y R b r P) (λi k n v h e m b=>by subst e;exact aiJ h x J s u us Q EE Y R b r m) b,
 λx J s Q EE P=>VW P (λa fn h p=>VT h) (λa q h p=>VU h) λi k n v h p p=>⟨k,_,h⟩⟩
def ajM(apz:14e3)(h:dp=true->yU d):iI (d+1) (.aW f as) F (mx (vj ih dp f as F)):=by
 refine JC (d+1) f as F (q2 (mx _))/\∀(x:Fx) (J:aV) (s:ae) (Q:0e5) (EE:0e5),10 (q2 (mx (vj ih dp f as F)))->kT F f;rw[ajz];exact ajL apz h
def ajN(apz:14e3)(fz:al)(x:Fx):qX ih fz d x:=
 ahB (λf as F=>(apz (.aW f as) F).1) (λf as F J s Q EE h P=>(apz (.aW f as) F).2 x J s Q EE P)
universe e
def ajO(apz:fO ih (e+1))(hr:∀O v w T,ih (22 772 [18e6,v,w]) (159 O [] T)= 123 (.v 0e6) (159 O [(31,v),(184,w)] T)):yU (e+2):=by
 intro v u bQ x J s r us Q EE Y R b h P;have a:nJ 789=G (false,[(166,772),(242,779),(148,786)]):=ar;show Tf (VM a (i:=772) cH) (f:=λo F=>rQ ih (5 772) (o::[v,29e8]) F) (λo aR=>(apz (22 772 (o::[v,29e8])) aR).1) (F:=⟨bQ.O,bQ.T,[]⟩) x J s r us Q EE Y 26e4 b h ?_;refine 10 (Internal.R.ch [] ((q2 (ih (22 772 [.Z bQ.O.U,v,29e8]) (159 bQ.O [] bQ.T))).aE _));rw[yB,hr];exact nZ (o:=[]) P H
def ajP{β:Type}{C:38e5}{l:2e1}{d:β}{f g:(Tk->al)->(Tk->1e0->0e1->fj)->2e1->β}(hd:C d)(s:∀q r o,C (f q r o))(h:∀q r o,C (g q r o)):C (QF l d f g):=yf hd λq o=>by
 cases q with
 |ec q r=>exact s q r o
 |cu q r=>exact h q r o
 |_=>exact hd
def hR:∀d n,fO (apy av n d) d:=by
 intro d;induction d using I.strongRecOn with
 |ind d k=>
  intro n;induction n with
  |i4=>exact λtk F=>VQ
  |hH n h=>
   have b:∀tk F,iI d tk F (on (apy av n d) (d.cD L λd=>G (apy av n d)) (I.g4 3 d) tk F):=by
    intro tk F;by_cases p:∃f as,tk= .aW f as
    ·(show qe p λf as l=>?_;try clear p;subst l);cases d with
     |i4=>exact VQ
     |hH d=>
      show ajM (k d 40e6 n) λhd=>?_;have h2:2<=d:=I.le_of_succ_le_succ (I.cy hd);clear hd;(show oE (⟨d-2,(I.ag1 h2).bh⟩:∃e,d=e+2) λe j=>?_;subst j);intro v u bQ x J s i us Q EE Y R m w P;exact ajO (k (e+1) bM 12) (ajC av e) v u bQ x J s i us Q EE Y R m w P
    ·exact ai6 h ajl VP (λfz x=>ajN h fz x) (λf as e=>p ⟨f,as,e⟩) F
   clear h;intro tk F;show ajP (C:=iI d tk F) (b tk F) (λq r o=>?_) λq r o=>?_
   ·cases q tk with
    |true=>exact Eq.bl (bB (iI d tk F) (VR ..)) (Nw λa=>a _ _)
    |false=>exact b tk F
   ·cases q tk with
    |true=>exact Eq.bl (bB (iI d tk F) (VR ..)) (Nw λa=>a _ _ _ _)
    |false=>exact b tk F
def aps.ay.fu(l:0e0)(t:al)(m:0e0)(u:al):(aps.ay l t=aps.ay m u)=(l=m/\t=u):=qV (399 ⟨a,b⟩)
def aps.bu.fu(C:aH)(d:0e1)(s:aH)(x:0e1):(aps.bu C d=aps.bu s x)=(C=s/\d=x):=qV (399 ⟨a,b⟩)
def aps.a7.fu(C:aH)(d:0e1)(s:aH)(x:0e1):(aps.a7 C d=aps.a7 s x)=(C=s/\d=x):=qV (399 ⟨a,b⟩)
def aps.cV.fu(k i x s:V):(aps.cV k i=aps.cV x s)=(k=x/\i=s):=qV (399 ⟨a,b⟩)
def aps.eF.fu(l m:4e9):(aps.eF l=aps.eF m)=(l=m):=55e2
def aps.au.fu(l m:0e0):(aps.au l=aps.au m)=(l=m):=55e2
def aps.bv.fu(l m:5e6):(aps.bv l=aps.bv m)=(l=m):=55e2
mutual
def cJ(f:I->I):V->V
 | .X l=> .X (bP f l)
 | .ad l t=> .ad (bP f l) t
 | .Z i=> .Z (f i)
 | .aa v=> .aa v
 | .bo b t=> .bo b t
 | .y i t=> .y i t
 | .ag s=> .ag s
 | .cg b=> .cg b
 | .eh b=> .eh b
def bP(f:I->I):D V->D V
 | []=>[]
 |v::l=>cJ f v::bP f l
end
def f9(f:I->I):aps->aps
 | .ay l t=> .ay (bP f l) t
 | .au l=> .au (bP f l)
 | .bv l=> .bv (320 (p.1,72 p.2))
 | .bu C d=> 112 (d.aj λp=>(p.1,72 p.2))
 | .eF b=> .eF b
 | .cV k i=> .cV (72 k) (72 i)
 | .a7 C d=> .a7 C (d.aj λp=>(p.1,72 p.2))
def lE(f:I->I):∀l,bP f l=l.aj (cJ f)
 | []=>rfl
 |v::l=>bB (15e3:: ·) (lE f l)
def CT(f:I->I)(l:0e0):(bP f l).U=l.U:=by rw[lE,D.fq]
def ajQ(f:I->I)(l:0e0):(bP f l).er=bP f l.er:=by rw[lE,lE,D.Mp]
section
variable{J kU:aV}{h:ai}{f:I->I}
set_option tactic.hygienic true in
theorem sC(hm:∀(i:I) p,J[f i]? =5e1->kU[i]? =5e1)(m:∀a,68 kU->14e2):∀{u:af},145 15e3->RV kU h v u:=by
 induction v using V.pc (KS:=λl=>∀us,cw J h (bP f l) us->cw kU h l us)with
 |aa v=>exact λr=>tH.cD r 14e9
 |bo b t=>exact λr=>KN.cD r (.bo ..)
 |y i t=>exact λr=>vu.cD r λe=> .y ..
 |ag s=>exact λr=>Ri.cD r λe=> .ag ..
 |cg b=>exact λr=>xU.cD r λe x=> .cg _ _ x
 |X l ih=>exact λr=>KP.cD r λa aO c x k=> .X _ _ _ c (CT f l▸x) (ih _ k)
 |ad l t ih=>exact λr=>Bp.cD r λa aO n no x k=> .ad _ _ _ _ n (λq=>no (m a q)) (CT f l▸x) (ih _ k)
 |eh b=>exact λr=>Rj.cD r λa j no x=> .eh _ _ j (λq=>no (m a q)) x
 |Z i=>exact λr=>mD.cD r λp o=> .Z _ p (hm _ _ o)
 |aQ=>rename_i r;exact cI.KJ r .aQ
 |aP v l d w=>rename_i r;exact cI.KM r λe e a b=> .aP (d a) (w _ b)
def cI.NA{α s β:Type}{p:17e7}{q:s->β->Prop}{g:s->α}(h:∀a b,p (g a) b->q a b):∀{l:D s} {m:D β},cI p (l.aj g) m->cI q l m:=by
 intro l;induction l with
 |aQ=>exact λr=>r.KJ .aQ
 |aP a l ih=>exact λr=>r.KM λe e x app=> .aP (h _ _ x) (ih app)
def VX(hm:∀(i:I) p,J[f i]? =5e1->kU[i]? =5e1)(x:∀a,68 kU->14e2)(r:83 (bP f l)):cw kU h l us:=cI.NA (λs s=>sC hm x) (lE f l▸r)
def VY{apv:Type}{g:38e8}(hm:∀(i:I) p,J[f i]? =5e1->kU[i]? =5e1)(x:∀a,68 kU->14e2){l:5e6}{es:31e8}:RK g J h (320 (p.1,72 p.2)) es->RK g kU h l es:=cI.NA λs s r=>⟨r.1,sC hm x r.2⟩
def VZ(hm:∀(i:I) p,J[f i]? =5e1->kU[i]? =5e1)(x:∀a,68 kU->14e2):lu J h (320 (p.1,72 p.2)) es->lu kU h l es:=cI.NA λs s r=>⟨r.1,sC hm x r.2⟩
def ajR{p:9e4}(hm:∀(i:I) p,J[f i]? =5e1->kU[i]? =5e1)(s:∀a,68 kU->14e2)(r:RO w J h p (f9 f o)):RO w kU h p o:=by
 cases o with
 |ay l t=>
  (show gp r λa b aO c d=>?_;try clear r);exact⟨a,by rwa[CT]at b,aO,c,VX hm s d⟩
 |au l=>
  (show gp r λa b aO c d=>?_;try clear r);rw[ajQ]at d;exact⟨a,by rwa[CT]at b,aO,c,VX hm s d⟩
 |bv l=>
  (show gp r λa b ob c d=>?_;try clear r);show⟨a,by rwa[D.fq]at b,ob,c,?_⟩;rcases d with⟨bK,d,e⟩|⟨bK,d,e⟩
  ·exact .a2 ⟨bK,d,VY hm s e⟩
  ·exact .aD ⟨bK,d,VY hm s e⟩
 |bu C dd=>
  obtain(⟨a,x,es,n,sl,b,c,e,g⟩):=r;exact⟨by rwa[D.fq]at a,x,es,n,sl,b,c,e,VZ hm s g⟩
 |eF b=>exact r
 |cV k i=>
  obtain(⟨fd,c1,c2,u1,u2,a,b,c,d,e,g,i⟩):=r;exact⟨fd,c1,c2,u1,u2,a,b,c,d,e,sC hm s g,sC hm s i⟩
 |a7 C dd=>
  obtain(⟨a,x,aC,es,n,vs,sl,b,c,e,g,i,j⟩):=r;exact⟨by rwa[D.fq]at a,x,aC,es,n,vs,sl,b,c,e,VZ hm s g,i,j⟩
universe e
mutual
def dE:V->V
 | .X l=> .X (ko l)
 | .ad l _=> .ad (ko l) true
 | .Z i=> .Z i
 | .aa v=> .aa v
 | .bo b _=> .bo b true
 | .y i _=> .y i true
 | .ag s=> .ag s
 | .cg b=> .cg b
 | .eh b=> .eh b
def ko:D V->D V
 | []=>[]
 |v::l=>dE v::ko l
end
def yV:∀l,ko l=l.aj dE
 | []=>rfl
 |v::l=>bB (dE v:: ·) (yV l)
def v0(l:0e0):(ko l).U=l.U:=by rw[yV,D.fq]
def eI:aps->aps
 | .ay l _=> 37 (ko l)
 | .au l=> 37 (ko l.er)
 | .bv l=> .bv (320 (dE p.1,dE p.2))
 | .bu C d=> 112 (d.aj λp=>(p.1,dE p.2))
 | .eF b=> .eF b
 | .cV k i=> .cV (dE k) (dE i)
 | .a7 C d=> .a7 C (d.aj λp=>(p.1,dE p.2))
section
variable{J:aV}{h:ai}
def ajS(r:22e2):145 (dE v):=by
 show RV.pc (motive_1:=λv u e=>145 (dE v)) (KS:=λl us e=>83 (ko l)) ?_ ?_ ?_ ?_ ?_ ?_ ?_ ?_ ?_ ?_ ?_ r
 ·exact λv=> .aa v
 ·exact λb t=> .bo ..
 ·exact λi t tk=> .y ..
 ·exact λs tk=> .ag ..
 ·exact λb tk x=> .cg _ _ x
 ·exact λl a aO w x e ih=> .X _ _ _ w (by rw[v0];exact x) ih
 ·exact λl t a aO k no x e ih=> .ad _ _ _ _ k no (by rw[v0];exact x) ih
 ·exact λb a m no x=> .eh _ _ m no x
 ·exact λi p n=> .Z _ _ n
 ·exact .aQ
 ·exact λe e a b=> .aP a b
set_option tactic.hygienic true in
theorem ajT:∀{u:af},145 (dE v)->22e2:=by
 induction v using V.pc (KS:=λl=>∀us,cw J h (ko l) us->cw J h l us)with
 |aa v=>exact λr=>tH.cD r 14e9
 |bo b t=>exact λr=>KN.cD r (.bo ..)
 |y i t=>exact λr=>vu.cD r λe=> .y ..
 |ag s=>exact λr=>Ri.cD r λe=> .ag ..
 |cg b=>exact λr=>xU.cD r λe x=> .cg _ _ x
 |X l ih=>exact λr=>KP.cD r λa aO j x k=> .X _ _ _ j (v0 l▸x) (ih _ k)
 |ad l t ih=>exact λr=>Bp.cD r λa aO m no x k=> .ad _ _ _ _ m no (v0 l▸x) (ih _ k)
 |eh b=>exact λr=>Rj.cD r λa w no x=> .eh _ _ w no x
 |Z i=>exact λr=>mD.cD r λp q=> .Z _ p q
 |aQ=>rename_i r;exact cI.KJ r .aQ
 |aP v l o n=>rename_i r;exact cI.KM r λe e a b=> .aP (o a) (n _ b)
def o5(e:dE v=dE v')(r:22e2):145 v':=ajT (e▸ajS r)
def cI.fE{α β γ:Type}{p:17e7}{g:α->γ}(h:∀a s b,g a=g s->p a b->p s b){l:8e4}{m:D β}(r:cI p l m):∀{l':8e4},l.aj g=l'.aj g->cI p l' m:=by
 induction r with
 |aQ=>exact λ{l'} e=>match l' with| []=> .aQ
 |aP a _ ih=>exact λ{l'} e=>match l' with|_::_=> .aP (h _ _ _ (D.aP.cE e).1 a) (ih (D.aP.cE e).2)
def v6{l s:0e0}{us:2e4}(e:ko l=ko s)(r:83 l):83 s:=cI.fE (p:=RV J h) (g:=dE) (λx x x e r=>o5 e r) r ((yV l).bh.aU (e.aU (yV s)))
def ajU(a:K)(k s:V)(e:dE k=dE s):tI a k->tI a s:=by
 rintro⟨t,H⟩;cases s with
 |y i t=>cases e;exact⟨t,H⟩
 |_=>exact nomatch e
def ajV(a:am)(k s:V)(e:dE k=dE s):tJ a k->tJ a s:=by
 rintro H;cases s with
 |ag=>cases e;rfl
 |_=>exact nomatch e
def V0{apv:Type}{f:38e8}(m:∀a k b,dE k=dE b->f a k->f a b){l x:5e6}{es:31e8}(e:(320 (dE p.1,dE p.2))=(x.aj λp=>(dE p.1,dE p.2)))(r:RK f J h l es):RK f J h x es:=
 r.fE (λs s s e r=>⟨m _ _ _ (bB (·.1) e) r.1,o5 (bB (·.2) e) r.2⟩) e
def V1{l s:0e1}{es:26e2}(e:(320 (p.1,dE p.2))=(s.aj λp=>(p.1,dE p.2)))(r:lu J h l es):lu J h s es:=
 r.fE (λa b x e r=>⟨(bB (·.1) e:a.1=b.1)▸r.1,o5 (bB (·.2) e) r.2⟩) e
def NB{α β:Type}{f:α->β}{l s:8e4}(e:l.aj f=s.aj f):l.U=s.U:=by
 have:=bB D.U e;simpa using a9
def V2:aps->37e2
 | .ay l _=>G l
 | .au l=>G l.er
 |_=>L
def V3(e:V2 o=G l):RO w J h p o ↔ (p.2=[]/\l.U<=16777216/\∃aO,h.j8 p.1 32e6/\cw J h l aO):=by
 cases o with
 |ay=>
  cases aq.G.cE e;exact Iff.H
 |au=>
  cases aq.G.cE e;refine(_/\_/\_) ↔ _;rw[D.lx]
 |_=>exact 18e0
def V4(e:eI o= 37 l):∃l',V2 o=G l'/\ko l'=l:=by
 cases o with
 |ay=>exact⟨_,H,(Eq.mp (aps.ay.fu ..) e).1⟩
 |au=>exact⟨_,H,(Eq.mp (aps.ay.fu ..) e).1⟩
 |_=>cases e
def V5(e:eI o= 37 l)(j:eI o'= 37 l)(r:RO w J h p o):RO w J h p o':=by
 show aM (V4 e) λa k s=>?_;show aM (V4 j) λb n x=>?_;show gp ((V3 k).mp r) λv m aO i u=>?_;have q:a.U=b.U:=by
  have:=bB D.U (s.aU x.bh);rwa[v0,v0]at a9
 exact(V3 n).bl ⟨v,q▸m,aO,i,v6 (s.aU x.bh) u⟩
def V6{p:9e4}(e:eI o=eI o')(r:RO w J h p o):RO w J h p o':=by
 cases o with
 |ay l t=>exact V5 H (e.bh.aU H) r
 |au l=>exact V5 H (e.bh.aU H) r
 |bv l=>
  cases o' with
  |bv l'=>
   have e:=Eq.mp (aps.bv.fu ..) e;(show gp r λa b ob c d=>?_;try clear r);show⟨a,NB e▸b,ob,c,?_⟩;rcases d with⟨bK,d,q⟩|⟨bK,d,q⟩
   ·exact .a2 ⟨bK,d,V0 (f:=tI) ajU e q⟩
   ·exact .aD ⟨bK,d,V0 (f:=tJ) ajV e q⟩
  |_=>cases e
 |bu C dd=>
  cases o' with
  |bu m v=>
   (show oA (Eq.mp (aps.bu.fu ..) e) λs u=>?_;subst s);obtain(⟨a,x,es,n,sl,b,c,q,g⟩):=r;exact⟨NB u▸a,x,es,n,sl,b,c,q,V1 u g⟩
  |_=>cases e
 |eF b=>
  cases o' with
  |eF b'=>exact Eq.mp (aps.eF.fu ..) e▸r
  |_=>cases e
 |cV k i=>
  cases o' with
  |cV app z=>
   have e:=Eq.mp (aps.cV.fu ..) e;obtain(⟨fd,c1,c2,u1,u2,a,b,c,d,q,g,i⟩):=r;exact⟨fd,c1,c2,u1,u2,a,b,c,d,q,o5 e.1 g,o5 e.2 i⟩
  |_=>cases e
 |a7 C dd=>
  cases o' with
  |a7 m v=>
   (show oA (Eq.mp (aps.a7.fu ..) e) λs u=>?_;subst s);obtain(⟨a,x,aC,es,n,vs,sl,b,c,q,g,i,j⟩):=r;exact⟨NB u▸a,x,aC,es,n,vs,sl,b,c,q,V1 u g,i,j⟩
  |_=>cases e
universe e
structure kp(f:I->I)(O eV:D aps)(T hP:D (I×V)):Prop where
 Z:∀(i:I) o,eV[i]? =G o->∃o2,O[f i]? =G o2/\eI o2=eI (f9 f o)
 bH:∀i,eV.U<=i->O.U<=f i
 cE:∀i j,i<eV.U->j<eV.U->f i=f j->i=j
 T:∀k v,lk hP k=G v->∃v2,lk T k=G v2/\dE v2=dE (cJ f v)
def mK(f:I->I)(m:I)(J:aV):aV:=(D.dR m).aj λi=>(J[f i]?).ge (0,[])
section
variable{x:Fx}{J:aV}{O eV:D aps}{T hP:D (I×V)}{bE:D cp}{s:ae}{f:I->I}
def ajW(h:i<m):(mK f m J)[i]? =G ((J[f i]?).ge (0,[])):=by
 unfold mK;rw[D.nX,D.uq h];rfl
def CU:(mK f m J).U=m:=by unfold mK;simp
def kp.lt(r:kp f O eV T hP)(h:i<eV.U):f i<O.U:=
 let⟨_,e,_⟩:=r.Z i _ (D.ic h)
 (D.gM.mp e).1
def kp.dL(r:kp f O eV T hP)(s:J.U=O.U)(h:i<eV.U):(mK f eV.U J)[i]? =J[f i]? :=by
 rw[ajW h,D.ic (s▸r.lt h)];rfl
def kp.fwd(r:kp f O eV T hP)(s:J.U=O.U)(i:I)(p:9e4)(e:J[f i]? =5e1):(mK f eV.U J)[i]? =5e1:=by
 by_cases h:i<eV.U
 ·rw[r.dL s h];exact e
 ·have:=(116 e);have:=r.bH i (I.du.mp h);lia
def kp.bwd(r:kp f O eV T hP)(s:J.U=O.U)(e:(mK f eV.U J)[i]? =5e1):J[f i]? =5e1:=by
 have h:=(116 e);rw[CU]at h;rw[<-r.dL s h];exact e
def kp.d2(r:kp f O eV T hP)(x:J.U=O.U)(a:aH)(h:68 (mK f eV.U J)):14e2:=by
 (show aM h λp s b=>?_;try clear h);show oE (D.V7 s) λi e=>?_;exact⟨p,D.ja (r.bwd x e),b⟩
def aJ.o6(R:160 (62 bE))(r:kp f O eV T hP):aJ x (mK f eV.U J) ⟨eV,hP,bE⟩ s:=by
 have l:J.U=O.U:=R.cR;have z:=r.fwd l;have n:=r.d2 l;show⟨R.d7,CU,λi o p e1 e2=>?_,?_,λa h=>R.gy a (n a h),λa h=>R.up a (n a h),⟨?_,λk v a b=>?_⟩,λa w h=>R.bH a w (n a h),R.hK,R.b2,R.hj,R.gz,λa w=>⟨(120 w).1,λh=>(120 w).2 (n a h)⟩,R.dC,R.os,R.cV⟩
 ·show aM (r.Z i o e1) λo2 g1 g2=>?_;exact ajR z n (V6 g2 (42 _ g1 (r.bwd l e2)))
 ·rw[D.dS,D.yg];show⟨λp V=>?_,?_⟩
  ·show oE (D.V7 V) λi d=>?_;have:=R.nd;rw[D.dS,D.yg]at a9;exact a9.1 p (D.ja (r.bwd l d))
  ·rw[D.Sj];intro i j d g apw a w b apq e;subst e;have apA:=r.bwd l (D.ic d);have W:=r.bwd l (D.ic g);have:=R.sg apA W w apq;rw[CU]at d g;have:=r.cE i j d g a9;lia
 ·obtain⟨m,S,P⟩:=R.bp.iN;exact⟨m,S,λk v a b=>(by show aM (r.T k v b) λv2 t app=>?_;exact(by show aM (P k _ a t) λu e q=>?_;exact⟨u,e,sC z n (o5 app q)⟩))⟩
 ·show aM (r.T k v b) λv2 t app=>?_;obtain(⟨c,u,e1,e2,e3,e4⟩):=200 k _ t;exact⟨c,u,e1,e2,sC z n (o5 app e3),λh=>e4 (n c h)⟩
def kp.split(r:kp f O eV T hP)(k:(l0++aB).U=O.U)(w:l0.U=apC)(n:∀i,i<apC->f i=i)(b:apC<=eV.U):
  ∃m,mK f eV.U (l0++aB)=l0++m/\∀a,68 m->68 aB:=by
 show⟨(mK f eV.U (l0++aB)).fh apC,?_,λa h=>?_⟩
 ·have:(mK f eV.U (l0++aB)).fG apC=l0:=by
   show D.V8 λi=>?_;by_cases s:i<apC
   ·rw[D.NC s,r.dL k (I.mF s b),n i s,D.kO (w▸s)]
   ·rw[D.q4 (by rw[D.qP];lia),D.q4 bM]
  have e:=D.Jx apC (mK f eV.U (l0++aB));rw[a9]at e;exact e.bh
 ·(show aM h λp l u=>?_;try clear h);show oE (D.V7 l) λj x=>?_;rw[D.V9]at x;have e:=r.bwd k x;have v:=(116 x);rw[CU]at v;have:apC<=f (apC+j):=by
   show I.du.mp λq=>?_;have h1:=n _ q;have:=r.cE _ _ (I.mF q b) v h1;lia
  rw[D.lA (by exact yp w a9)]at e;exact⟨p,D.ja e,u⟩
def Kp.less(apv:56 l0 x h h')(s:∀a,68 ajX->68 aB):Kp l0 ajX x h h':=⟨apv.bR,apv.js,apv.iV,apv.g5,λa q=>apv.fk a (s a q)⟩
universe e
section
variable{α β:Type}
def CV(x:Fx)(J:aV)(h0:ai)(r:3e3)(bq:17e8)(Q:12e2)(EE:0e5):Prop:=match r with
 | .aS a F _=>∀aB s' u,206 F->56 J x h0 s'.M->bq (J++aB) s'.M a u->Q u s'
 | .a7 i F _=>∀aB s' u,x4 J F i->206 (4 F.O F.bE)->56 J x h0 s'.M->RV (J++aB) s'.M 15e9 u->EE u s'
 | .no _=>fR
def aG.toB{bq:17e8}{Q:12e2}{EE:0e5}(P:27e7):CV x J s.M r bq Q EE:=by
 cases r with
 |aS a F ob=>exact P.2
 |a7 i F ob=>exact P.2
 |no w=>exact P
universe e
structure gb(apC:I)(O eV:D aps)(T hP:D (I×V))(f:I->I):Prop where
 o6:kp f O eV T hP
 fA:∀i,i<apC->f i=i
 le:apC<=eV.U
def gb.sB{apC:I}{O eV:1e0}{T hP:0e1}{f:I->I}(r:gb apC O eV T hP f){bE:2e1}(k:l0.U=apC)(R:165 l0 aB (62 bE) s)(apv:56 l0 x h0 s.M):
  ∃a,165 l0 a ⟨eV,hP,bE⟩ s/\Kp l0 a x h0 s.M/\∀v u,RV (l0++aB) s.M 15e3 u->RV (l0++a) s.M v u:=by
 show aM (r.o6.split R.cR k r.fA r.le) λa e p=>?_;have b:=R.o6 r.o6;rw[e]at b;show⟨a,b,apv.less p,λv u q=>?_⟩;have:=sC (f:=f) (J:=l0++aB) (kU:=mK f eV.U (l0++aB)) (h:=s.M) (r.o6.fwd R.cR) (r.o6.d2 R.cR) q;rwa[e]at a9
def ajY(d:I)(h:cC)(apq:PySem.aZ)(B:11e1)(apC:I)(F:MS)(bH:2e9):Prop:=
 ∀(x:Fx) (J aB:aV) (h0:ai) (s:ae) (Q:34e8) (EE:0e5),3e6->x.ab.br=h->x.fz=false->pT 3e0 x.A x.ab EE->J.U=apC->295 F s->56 J x h0 s.M->CV x J h0 bH RF Q EE->
  e7 3e0 x.A (.DM apq B [] x.ab) (367 f (zy 3e0 x.A x.ab EE e s')) s
def n4(d:I)(t:apw)(b:15e5)(apC:I)(F:MS)(bH:2e9):Prop:=∀k sc apq B,fc k sc (.t apq t)=true->fc k sc (.b B b)=true->ajY d sc apq B apC F bH
section
variable{d apC:I}{t:apw}{b:D Internal.S}{F aR dr:MS}{fL:D aps}{gc:D (I×V)}{Wa:D cp}{f:I->I}{bH:R A}{q5 CW:D Prop}
def Kp.oM(a:Kp l0 m1 x h0 h1)(b:Kp (l0++m1) m2 x h1 h2):Kp l0 (m1++m2) x h0 h2:=a.aU b
def ND{c:al}{k:I}{e:cC}{apq:PySem.aZ}(a:iI d (.t t) F (.aS (.b c) aR q5))(b:∀p∈q5,p)(n:fc k e (.t apq t)=true){x:Fx}{J:aV}{s:ae}(Y:3e6)(v:x.ab.br=e)(m:0e9){E:0e5}:
  aL 3e0 x.A (sT apq x.ab (233 apq)) (λw s1=>w=c/\∃h,165 J h aR s1/\70 h s1.M) E s:=by
 show a k e apq n x J s _ _ Y v m ?_;refine aG x J s (.aS c aR (q5++[])) RB _ _;rw[D.dY];exact⟨b,λh s1 u r q r1=>⟨Eq.bh r1,h,r,q⟩⟩
def ajZ(z:iI d (.t t) F (.aS 6e7 aR q5))(g:∀p∈q5,p)(S:iI d 12e5 aR (57 dr CW))(oB:∀p∈CW,p)(i:gb apC dr.O fL dr.T gc f)(hL:∀Wa,n4 d t b apC ⟨fL,gc,Wa⟩ bH):n4 d t b apC F bH:=by
 intro k sc apq B h1 h2 x J aB h0 s Q EE Y n hz app v l apv P;show zF ?_;show eW (ND (E:=λh h=>fR) z g h1 Y n l) ?_ 50e6;rintro c s1 ⟨H,m,R,V⟩;show eW (S k sc B h2 x (J++aB++m) s1 (λfl e=>fl= .bz/\∃m2,aJ x (J++aB++m++m2) dr e/\Kp (J++aB++m) m2 x s1.M e.M) (λh h=>fR) Y n hz pT.never R ⟨oB,λm2 e u a r r2=>?_⟩) ?_ 50e6
 ·cases r2;exact⟨H,m2,a,r⟩
 ·rintro fl e ⟨H,m2,a,r⟩;have KK:=apv.oM (V.oM r);rw[D.eO,D.eO]at a;obtain⟨fD,gQ,j⟩:=dr;show dU (i.sB v a KK) λo w apA h=>?_;exact hL j k sc apq B h1 h2 x J o h0 e Q EE Y n hz app v w apA P
def aj0(a:iI d (.t t) F (.aS 1e9 aR q5))(r:∀p∈q5,p):n4 d t b apC F (57 aR []):=by
 intro k sc apq B h1 h2 x J aB h0 s Q EE Y n hz w u m apv P;show zF ?_;show eW (ND (E:=λh h=>fR) a r h1 Y n m) ?_ 50e6;rintro c s1 ⟨H,i,e,v⟩;rw[D.eO]at e;exact P _ s1 .bz e (apv.oM v) .bz
def aj1{i j:I}(g:iI d (.t t) F (.aS 6e7 aR q5))(R:∀p∈q5,p)(apA:iI d 12e5 aR (.a7 i dr CW))(oB:∀p∈CW,p)(n:gb apC dr.O fL [] [] f)(apD:f j=i)(apu:apC<=j)(apE:∃C dd,fL[j]? =G (.a7 C dd))(T:0e1):n4 d t b apC F (.a7 j ⟨fL,T,dr.bE⟩ []):=by
 intro k sc apq B h1 h2 x J aB h0 s Q EE Y r hz a v o apv P;show zF ?_;show eW (ND (E:=λh h=>fR) g R h1 Y r o) ?_ 50e6;rintro c s1 ⟨H,W,S,apw⟩;show eW (apA k sc B h2 x (J++aB++W) s1 (λh h=>fR) EE Y r hz a S ⟨oB,λm2 z u apx e l r2=>?_⟩) 50e6 a;have KK:=apv.oM (apw.oM l);rw[D.eO,D.eO]at e r2;obtain⟨fD,gQ,apr⟩:=dr;show dU (n.sB v e KK) λapp m A w=>?_;exact P app z u ⟨bM,apE⟩ m A (w (.Z j) u (by rw[show 72 (.Z j)= .Z (f j)from H,apD];exact r2))
def aj2(h:∀o1 o2,n4 d t b O.U 29e4 (o.mY o2 [])):av d (.s (.lO t b)) O T o:=by
 have cQ:∀o1 o2 k sc apq B,fc k sc (.t apq t)=true->fc k sc (.b B b)=true->JW d sc apq B 29e4 (o.mY o2 []):=by
  intro o1 o2 k sc apq B h1 h2 x J s Q EE Y n hz m r P;have v:165 J [] 29e4 s:=by rw[D.dY];exact r
  exact h o1 o2 k sc apq B h1 h2 x J [] s.M s Q EE Y n hz m r.cR v (Kp.b7 ..) P.toB
 intro o1 o2;show⟨λk sc S p=>?_,λk sc apq B t' b' e h1 h2=>by cases e;exact cQ o1 o2 k sc apq B h1 h2⟩;cases k with
 |i4=>cases p
 |hH k=>
  exact Q4 p λa a a a h=>kg 7e5 (TF (cQ o1 o2 k sc _ _ 27e9 31e9))
universe e
def v7(f:I->I):A->A
 | .v v=> .v 15e3
 | .b b=> .b b
 | .f .bz=> 24e4
 | .f (.bj v)=> 105 15e3
section
variable{d apC:I}{O fD fL:D aps}{T gQ gc:D (I×V)}{o1 o2:D cp}{f:I->I}{ob:D Prop}
def gb.post{α β:Type}{a a3:α}(n:gb O.U fD fL gQ gc f)(k:33e6){x:Fx}{J:aV}{s:ae}{bq:17e8}{Q:12e2}{EE:0e5}(b:J.U=O.U)
  (aj3:∀{l l':aV} {h:ai} {u:β},(∀v u,RV l h 15e3 u->RV l' h v u)->bq l h a u->bq l' h a3 u) {o4:2e1} (P:11 (20 a3 fL gc o4 [])):11 (20 a fD gQ o2 ob):=
 ⟨k,λaB s' u w apv r=>by
  show dU (n.sB b w apv) λm e q i=>?_
  exact P.2 m s' u (gP e) q (aj3 i r)⟩
def aj4:∀{l l':aV} {h:ai} {u:af},(∀v u,RV l h 15e3 u->RV l' h v u)->RV l h 15e3 u->RV l' h v u:=λs r=>s _ _ r
def Wb:∀{l l':aV} {h:ai} {u:iK},(∀v u,RV l h 15e3 u->RV l' h v u)->RF l h (v7 f a) u->RF l' h a u:=λs r=>by
 cases a with
 |v v=>cases r
 |b b=>cases r
 |f q=>
  cases q with
  |next=>cases r;exact .bz
  |bj v=>
   have r2:RF _ _ (105 15e3) _:=r;clear r;cases r2 with
   |bj r3=>exact .bj (s _ _ r3)
def Wc{g:V}{as:0e0}{v:V}(h:iI d 36e0 29e4 (20 (.v 15e3) fD gQ o2 ob))(k:33e6)(n:gb O.U fD fL gQ gc f)(e:kT (62 []) g):121 d 36e0 O T v fL gc:=by
 intro m o4;show⟨λx J s u us Q EE Y a r b P=>h.1 x J s u us Q EE Y (gP a) r b ?_,λx J s Q EE P=>?_⟩
 ·have P:10 (20 v fL gc o4 []):=P;clear h;refine 10 (20 15e3 fD gQ o2 (ob++[]));rw[D.dY];exact n.post k a.cR aj4 P
 ·cases g with
  |aa v=>cases v<;>exact e
  |Z i=>exact e
  |_=>exact e
def aj5{b:15e5}{a:A}(h:iI d 12e5 29e4 (20 (v7 f a) fD gQ o2 ob))(m:33e6)(n:gb O.U fD fL gQ gc f):av d 12e5 O T (.Y a fL gc):=
 λq o4 k sc B w x J s Q EE Y v hz r e P=>h k sc B w x J s Q EE Y v hz r (gP e) (n.post m e.cR Wb P)
universe e
def aj6(d:I)(h:cC)(B:11e1)(apC:I)(F:MS)(bH:2e9):Prop:=
 ∀(x:Fx) (J aB:aV) (h0:ai) (s:ae) (Q:34e8) (EE:0e5),3e6->x.ab.br=h->x.fz=false->pT 3e0 x.A x.ab EE->J.U=apC->295 F s->56 J x h0 s.M->CV x J h0 bH RF Q EE->
  25 (mh B x.ab)
def ig(d:I)(b:15e5)(apC:I)(F:MS)(bH:2e9):Prop:=∀k sc B,fc k sc (.b B b)=true->aj6 d sc B apC F bH
section
variable{d apC:I}{F aR:MS}{b:D Internal.S}{sm:Internal.S}{fL:D aps}{gc:D (I×V)}{f:I->I}{bH:R A}{ob:D Prop}{a:A}
def mM(j:iI d (.s sm) F (57 aR ob))(q:33e6)(m:ig d b apC aR bH):ig d (sm::b) apC F bH:=by
 intro k sc B h x J aB h0 s Q EE Y r hz e n v apv P;cases k with
 |i4=>cases h
 |hH k=>
  cases B with
  |aQ=>cases h
  |aP S B=>
   show oA 18e3 λh1 h2=>?_;show 51e6;show aY (j.1 k sc S h1 x (J++aB) s _ EE Y r hz e v ⟨q,λw s1 u a i r1=>?_⟩);cases r1;rw[D.eO]at a;exact m k sc B h2 x J (aB++w) h0 s1 Q EE Y r hz e n a (apv.oM i) P
def yW(a:gb apC F.O fL F.T gc f)(p:∀bE,ig d b apC ⟨fL,gc,bE⟩ bH):ig d b apC F bH:=by
 intro k sc B w x J aB h0 s Q EE Y m hz r h n apv P;obtain⟨O,T,bE⟩:=F;show dU (a.sB h n apv) λv e q u=>?_;exact p bE k sc B w x J v h0 s Q EE Y m hz r h e q P
def aj7(t:iI d 12e5 F (.aS (v7 f a) aR ob))(j:33e6)(m:gb apC aR.O fL aR.T gc f):ig d b apC F (20 a fL gc bE []):=by
 intro k sc B l x J aB h0 s Q EE Y w hz n q i apv P;obtain⟨g,o8,app⟩:=aR;show t k sc B l x (J++aB) s Q EE Y w hz n i ⟨j,λz s1 u h v r1=>?_⟩;rw[D.eO]at h r1;show dU (m.sB q h (apv.oM v)) λr e o c=>?_;exact P r s1 u (gP e) o (Wb c r1)
def aj8(o:O[j]? =G (112 dd))(hd:lk dd n=G 15e9)(A:∀a,ig d b apC ⟨mu O j (112 (fv dd n 26e0)),T,bE⟩ bH):ig d b apC (62 bE) bH:=by
 intro k sc B apr x J aB h0 s Q EE Y apx hz apE app m apv P;have t:j<(J++aB).U:=by rw[m.cR];exact(116 o)
 show oE (⟨_,D.ic t⟩:∃p,(J++aB)[j]? =5e1) λp l=>?_;obtain(⟨apA,apw,es,c,sl,e1,e2,e3,e4⟩):=m.O j _ p o l;have apD:∀{dd:0e1} {es:26e2},lu (J++aB) s.M dd es->lk dd n=G 15e9->∃a,lu (J++aB) s.M (fv dd n 26e0) es/\(fv dd n 26e0).U=dd.U:=by
  intro dd es r;induction r with
  |aQ=>exact λh=>nN h
  | @aP q e dd es rv apu ih=>
   intro h;rw[nP]at h;simp only[BK];cases z:I.bX q.1 n with
   |true=>
    rw[z]at h;have v:=rv.2;rw[show q.2= 15e9 from 52e5]at v;generalize W:e.oR=u at v;cases v using mD.cD with
    |Z p l=>exact⟨p.1,.aP ⟨rv.1,W▸ 14e9⟩ apu,H⟩
   |false=>
    rw[z]at h;show aM (ih h) λa apq l'=>?_;exact⟨a,.aP rv apq,bB (· +1) l'⟩
 show aM (apD e4 hd) λa E f=>?_;show A a k sc B apr x J aB h0 s Q EE Y apx hz apE app ⟨m.d7,by rw[m.cR];exact(Lv _ _ _).bh,λw o' g g1 g2=>?_,m.nd,m.gy,m.up,m.bp,m.bH,m.hK,m.b2,m.hj,m.gz,m.fx,m.dC,m.os,m.cV⟩ apv P;have g3:(mu O j (112 (fv dd n 26e0)))[w]? =G o':=g1;rw[Sg]at g3;by_cases q:j=w/\j<O.U
 ·rw[eX q]at g3;have R:=aq.G.cE g3;rw[<-q.1,l]at g2;have S:=aq.G.cE g2;rw[<-R,<-S];exact⟨by exact yp f apA,apw,es,c,sl,e1,e2,e3,E⟩
 ·rw[d5 q]at g3;exact m.O w o' g g3 g2
universe e
section
variable{d n:I}{O fD fL:D aps}{T o8 gQ gc:D (I×V)}{o1 o2:D cp}{ob:D Prop}{b:D Internal.S}{t:apw}{a:A}{bH:fj}
def Wd{α β:Type}{x:Fx}{J:aV}{s:ae}{a:α}{F:MS}{bq:17e8}{Q:12e2}{EE:0e5}(h:33e6)(P:11 (123 a F)):11 (.aS a F ob):=⟨h,P.2⟩
def We(h:115 av n d 12e5 O T o1= 20 a fD gQ o2 ob)(r:33e6):av d 12e5 O T (.Y a fD gQ):=by
 have S:=hR d n 12e5 29e4;rw[h]at S;exact λq o4 k sc B w x J s Q EE Y v hz e m P=>S k sc B w x J s Q EE Y v hz e (gP m) (Wd r (nZ (o:=o2) P H))
def v8{f:I->I}(h:115 av n d 12e5 O T o1= 20 (v7 f a3) fD gQ o2 ob)(x:33e6)(s:gb O.U fD fL gQ gc f):av d 12e5 O T (.Y a3 fL gc):=by
 have S:=hR d n 12e5 29e4;rw[h]at S;exact aj5 S x s
def Wf{f:I->I}(a:115 av 9 d (.t t) O T o0= 20 6e7 O T o0 [])(x:av d 12e5 O T (52 fD gQ))(e:gb apC fD fL gQ gc f)(hL:∀o,n4 d t b apC ⟨fL,gc,o⟩ r):n4 d t b apC (62 o0) r:=by
 have S:=hR d 9 (.t t) (62 o0);rw[a]at S;exact ajZ S (λs h=>nomatch h) (x o0 o0) (λs h=>nomatch h) e hL
def aj9(m:115 av 9 d (.t t) O T o0= 20 6e7 O T o0 [])(n:av d 12e5 O T (.a7 i fD gQ)){f:I->I}(a:gb apC fD fL [] [] f)(e:f j=i)(z:apC<=j)(app:∃C dd,fL[j]? =G (.a7 C dd))(o:2e1):
  n4 d t b apC (62 o0) (.a7 j ⟨fL,gc,o⟩ []):=by
 have S:=hR d 9 (.t t) (62 o0);rw[m]at S;intro k sc apq B h1 h2 x J aB h0 s Q EE Y c hz p v q apv P;have l:CV x J h0 (.a7 j ⟨fL,gc,o0⟩ []) RF Q EE:=λaB s' u e R apv r=>P aB s' u e 26e4 apv r;exact aj1 S (λw h=>nomatch h) (n o0 o0) (λw h=>nomatch h) a e z app gc k sc apq B h1 h2 x J aB h0 s Q EE Y c hz p v q apv l
def aka(a:115 av 9 d (.t t) O T o0= 20 1e9 O T o0 [])(o:2e1):n4 d t b apC (62 o0) (20 24e4 O T o []):=by
 have S:=hR d 9 (.t t) (62 o0);rw[a]at S;intro k sc apq B h1 h2 x J aB h0 s Q EE Y n hz e p m apv P;exact aj0 S (λv h=>nomatch h) k sc apq B h1 h2 x J aB h0 s Q EE Y n hz e p m apv (λaB s' u R apv r=>P aB s' u 26e4 apv r)
def kp.id{f:I->I}(b:f=λi=>i)(x:∀(i:I) o,O[i]? =0e4->f9 f o=o)(s:∀k v,19e1=2e5->15e3=v):kp f O O T T:=by
 subst b;exact⟨λi o e=>⟨o,e,bB eI (x i o e).bh⟩,λi h=>h,λi j a a h=>h,λk v e=>⟨v,e,bB dE (s k v e).bh⟩⟩
mutual
theorem n5:∀v:V,cJ (λi=>i) v=v
 | .X l=>bB V.X (yX l)
 | .ad l t=>bB (V.ad · t) (yX l)
 | .Z i=>rfl
 | .aa v=>rfl
 | .bo b t=>rfl
 | .y i t=>rfl
 | .ag s=>rfl
 | .cg b=>rfl
 | .eh b=>rfl
theorem yX:∀l:D V,bP (λi=>i) l=l
 | []=>rfl
 |v::l=>(bB (· ::_) (n5 v)).aU (bB (v:: ·) (yX l))
end
def CX{α:Type}:∀l:D (α×V),(320 (p.1,cJ 39e7 p.2))=l
 | []=>rfl
 |(a,v)::l=>by rw[D.nW,CX l,n5]
def ur(o:aps):f9 39e7 o=o:=by
 cases o with
 |bv l=>exact bB aps.bv (CX l)
 |bu C d=>exact bB (aps.bu C) (CX d)
 |a7 C d=>exact bB (aps.a7 C) (CX d)
 |ay l t=>exact bB (aps.ay · t) (yX l)
 |au l=>exact bB aps.au (yX l)
 |cV k i=>exact congr (bB aps.cV (n5 k)) (n5 i)
 |eF=>rfl
def akb{s:Tg}{it:It}{k:I}{v:V}{F h dr:MS}{rb rl:MS->2e9}(e:32e7=G 2e5)(hs:pE F s v= 123 () h)(x:rb h= 57 dr []):ug F s it k rb rl=rl dr:=by
 unfold ug;rw[e];refine((pE F s v).aE _)=_;rw[hs];refine((rb h).aE _).ch []=_;rw[x,yB];refine(rl dr).ch []=_;rw[yB]
def akc{s:Tg}{it:It}{k:I}{v w:V}{F h dr:MS}{rb rl:MS->2e9}(e:32e7=G 2e5)(hs:pE F s v= 123 () h)(x:rb h= 123 (105 w) dr):ug F s it k rb rl= 123 (105 w) dr:=by
 unfold ug;rw[e];refine((pE F s v).aE _)=_;rw[hs];refine((rb h).aE _).ch []=_;rw[x,yB];rfl
def gb.id(h:apC<=O.U):gb apC O O T T 39e7:=⟨.id H (λs s s=>ur _) (λs s s=>n5 _),λs s=>rfl,h⟩
def yY{r:Tg}{it:It}{k:I}{v:V}{n6:1e0}{n7:0e1}(q:∀F,32e7=G 2e5)(hs:∀o,pE (62 o) r v= 20 () O o8 o [])(u:av d 12e5 O o8 (52 n6 n7))(hL:av d (.gj r it (k+1) b) n6 n7 bH):av d (.gj r it k b) O T bH:=by
 classical
 intro m o4 p sc apq B h1 h2 h3;have z:=Cs (ih:=tD) (d:=d) (k:=k) (F:=(62 m)) (it:=it) (kt:=0) (B:=B) (rb:=λaR=>if aR.O=O/\aR.T=o8 then 20 24e4 n6 n7 aR.bE []else .no 0)
  (rl:=λaR=>if aR.O=n6/\aR.T=n7 then bH.mY o4 []else .no 0) (CL (ih:=tD) (d:=d) h1 0) (CM h1 h2) (λaR=>?_) (λaR=>?_)
 ·rw[akb (dr:=⟨n6,n7,m⟩) (q _) (hs _) (eX 15e2),eX 15e2]at z;exact z
 ·by_cases h:aR.O=O/\aR.T=o8
  ·rw[eX h];obtain⟨s9,n,e⟩:=aR;(show oA h λe1 e2=>?_;try clear h);dsimp only at e1 e2;subst e1 e2;exact u e e p sc B h3
  ·rw[d5 h];exact λx J s Q EE Y j hz w i P=>P.ak
 ·by_cases h:aR.O=n6/\aR.T=n7
  ·rw[eX h];obtain⟨s9,n,e⟩:=aR;(show oA h λe1 e2=>?_;try clear h);dsimp only at e1 e2;subst e1 e2;exact hL e o4 p sc apq B h1 h2 h3
  ·rw[d5 h];exact λx dB aB l s Q EE f wr Y j hz w i apv a b c P=>P.ak
def akd{e:Tg}{it:It}{k:I}{v w:V}{n6:1e0}{n7:0e1}(p:∀F,32e7=G 2e5)(hs:∀o,pE (62 o) e v= 20 () O o8 o [])(m:av d 12e5 O o8 (.Y (105 w) n6 n7)):av d (.gj e it k b) O T (.Y (105 w) n6 n7):=by
 classical
 intro j o4 n sc apq B h1 h2 h3;have z:=Cs (ih:=tD) (d:=d) (k:=k) (F:=(62 j)) (it:=it) (kt:=0) (B:=B) (rb:=λaR=>if aR.O=O/\aR.T=o8 then 20 (105 w) n6 n7 o4 []else .no 0)
  (rl:=λaR=> .no 0) (CL (ih:=tD) (d:=d) h1 0) (CM h1 h2) (λaR=>?_) (λaR=>λx dB aB f s Q EE t wr Y i hz r q apv a b c P=>P.ak)
 ·rw[akc (dr:=⟨n6,n7,o4⟩) (p _) (hs _) (eX 15e2)]at z;exact z
 ·by_cases h:aR.O=O/\aR.T=o8
  ·rw[eX h];obtain⟨s9,l,u⟩:=aR;(show oA h λe1 e2=>?_;try clear h);dsimp only at e1 e2;subst e1 e2;exact m u o4 n sc B h3
  ·rw[d5 h];exact λx J s Q EE Y i hz r q P=>P.ak
def NE(n:∀F,32e7=G L):av d (.gj tg it k b) O T (52 O T):=by
 intro w o4 v sc apq B h1 h2 h3;have z:=Cs (ih:=tD) (d:=d) (k:=k) (F:=(62 o4)) (it:=it) (kt:=0) (B:=B) (rb:=λaR=> .no 0) (rl:=λaR=> .no 0) (CL (ih:=tD) (d:=d) h1 0) (CM h1 h2) (λaR=>λx J s Q EE Y e hz h r P=>P.ak) (λaR=>λx dB aB p s Q EE m wr Y e hz h r apv a b c P=>P.ak);unfold ug at z;rw[n]at z;intro x dB aB p s Q EE m wr Y e hz h r apv a b c P;exact z x dB aB p s Q EE m wr Y e hz h (gP r) apv a b c P
universe e
def ut(hr:∀J h us,83 yZ->83 as)(h:av d 36e0 O T bH):av d (.aW g yZ) O T bH:=by
 intro o1 o2;show oA (h o1 o2) λh1 h2=>?_;exact⟨λx J s u us Q EE Y e b a P=>h1 x J s u us Q EE Y e b (hr _ _ _ a) P,h2⟩
def Wg(hr:∀J h u,22e2->145 v')(h:121 d 36e0 O T v fD gQ):121 d 36e0 O T v' fD gQ:=by
 intro o1 o2;show oA (h o1 o2) λh1 h2=>?_;have cQ:∀{x:Fx} {J:aV} {s:ae} {Q:0e5} {EE:0e5},10 (q2 ((fj.Y (.v v') fD gQ).mY o2 []))->10 (q2 ((fj.Y (.v v) fD gQ).mY o2 [])):=
  λP=>⟨λp h=>(nomatch h),λaB s' u e apv r=>P.2 aB s' u e apv (hr _ _ _ r)⟩
 exact⟨λx J s u us Q EE Y e b a P=>h1 x J s u us Q EE Y e b a (cQ P),λx J s Q EE P=>h2 x J s Q EE (cQ P)⟩
def ake(J:aV)(h:ai)(u:af)(r:145 (.y i t)):145 (.y i t'):=by cases r;exact .y ..
def iY{n d:I}{g:V}{as:0e0}{O e:1e0}{T a:0e1}{o1 o2:2e1}{v:V}{ob:6e1}(h:115 av n d 36e0 O T o1= 20 (.v v) e a o2 ob)(m:33e6)(r:kT (62 []) g):121 d 36e0 O T v e a:=by
 have S:=hR d n 36e0 29e4;rw[h]at S;clear h;intro q o4;show⟨λx J s u us Q EE Y w b k P=>S.1 x J s u us Q EE Y (gP w) b k ?_,λx J s Q EE P=>?_⟩
 ·have P:10 (20 v e a o4 []):=P;clear S;refine 10 (20 v e a o2 (ob++[]));rw[D.dY];exact Wd m (nZ (o:=o2) P H)
 ·cases g<;>exact r
def NF{n d i:I}{g:V}{as:0e0}{O k:1e0}{T o gc:0e1}{o1 o2:2e1}{ob:6e1}(h:fT (115 av n d 36e0 O T o1)= .a7 i ⟨k,o,o2⟩ ob)(l:33e6)(e:kT (62 []) g):av d 36e0 O T (.a7 i k gc):=by
 have S:=hR d n 36e0 29e4;generalize apy av n d (.aW g as) ⟨O,T,o1⟩=r at h S;cases r with
 |aS a F ob=>cases h
 |no w=>cases h
 |a7 z F f=>
  obtain⟨s9,c,t⟩:=F;cases h;intro app o4;show⟨λx J s u us Q EE Y b m q P=>S.1 x J s u us Q EE Y (gP b) m q ?_,λx J s Q EE P=>?_⟩
  ·exact⟨l,λaB s' u j b apv r=>P.2 aB s' u j (gP b) apv r⟩
  ·cases g with
   |aa v=>cases v<;>exact e
   |Z i=>exact e
   |_=>exact e
def iZ{a:I}{F:MS}(h:(lk ft a).iq=true):kT F 26e0:=by
 show oE (aq.mT.mp h) λfn e=>?_;exact VT e
def a4:∀p∈([]:6e1),p:=λs h=>nomatch h
def ac{p:Prop}{l:6e1}(h:p)(s:∀q∈l,q):∀q∈p::l,q:=λq x=>(D.eR.mp x).ak (λe=>e▸h) (s q)
def akf(P:PP)(d:I)(O:1e0)(T:0e1)(a n s:K)(w:V):227 20 1 459 [0e2,0e3,0e8,w] [1e9,1e9,1e9]= 93 0e6 O [bJ (a<0)=false,bJ (n<0)=false,bJ (s<a+n)=false]:=ar
def Wh{a n s:K}{t1 t2 t3:al}{w:V}(J:aV)(h:ai)(us:2e4)(r:83 [.y a t1,.y n t2,.y s t3,w]):83 [0e2,0e3,0e8,w]:=v6 cH r
def ii{d:I}{a n s:K}{t1 t2 t3:al}{w:V}(h:0<=a/\0<=n/\a+n<=s):235 av (d+1) [.y a t1,.y n t2,.y s t3,w]:=by
 intro O T;exact ut Wh (iY (akf av d O T a n s w) (129 (125 h.1) (125 h.2.1) (125 h.2.2)) 17e5)
def y0(x:K):345 18446744073709551615=x % 18446744073709551616:=by
 by_cases s:0<=x
 ·rw[bitAnd_pp s ap];have h:x.aI&&&(18446744073709551615:K).aI=x.aI % 18446744073709551616:=I.akg x.aI 64;rw[h,K.Wi,K.uj s];rfl
 ·rw[bitAnd_np s ap];have h:(18446744073709551615:K).aI&&&(Builtin.CY x).aI=(Builtin.CY x).aI % 18446744073709551616:=by
   rw[I.and_comm];exact I.akg (Builtin.CY x).aI 64
  rw[h];(show oE (K.eq_negSucc_of_lt_zero 45e5) λk e=>?_;subst e);have a:(Builtin.CY 43e7).aI=k:=by unfold Builtin.CY;lia
  rw[a,K.negSucc_emod k (b:=18446744073709551616) ap];rw[K.Wi];rfl
def akh(P:PP)(d:I)(O:1e0)(T:0e1)(n:K):227 20 1 84 [0e3,29e0] []= 93 (2 (Builtin.i7 n 4294967295)) O []:=ar
def aki(P:PP)(d:I)(O:1e0)(T:0e1)(n:K):227 20 1 84 [0e3,17e2] []= 93 (2 (Builtin.i7 n 18446744073709551615)) O []:=ar
def Wj{d:I}{n:K}{t:al}:58 av (d+1) 84 [.y n t,17e2] 50e4:=by
 intro O T;show ut (as:=[0e3,17e2]) (λJ h us r=>?_) (iY (n:=20) (o1:=[]) (o2:=[]) (ob:=[]) ?_ (λp s=>nomatch s) 17e5)
 ·cases r with
  |aP r1 r=>exact .aP (ake _ _ _ r1) r
 ·rw[aki,y0]
def akj(a b:K)(k:I)(h:0<=a)(p:a<2^k)(x:0<=b):Builtin.Ke a (b*2^k)=a+b*2^k:=by
 have h2:(0:K)<=b*2^k:=K.Wk x (K.CZ ap);rw[bitOr_and,bitAnd_pp h h2];have:a.aI&&&(b*2^k).aI=0:=by
  have e:(b*2^k).aI=b.aI<<<k:=by
   rw[I.shiftLeft_eq];apply K.cf.cE;refine((b*2^k).aI:K)=((b.aI*2^k:I):K);rw[K.uj h2,K.natCast_mul,K.uj x,K.Wl];rfl
  have r:a.aI<2^k:=by
   have h3:((a.aI:I):K)<((2^k:I):K):=by rw[K.uj h,K.Wl];exact p
   exact K.Le.mp h3
  rw[e];apply I.eq_of_testBit_eq;intro i;rw[I.testBit_and,I.testBit_shiftLeft,I.zero_testBit];by_cases s:k<=i
  ·rw[I.testBit_lt_two_pow (I.mF r (I.pow_le_pow_right ap s))];rfl
  ·simp[s]
 rw[a9];lia
def y1:Internal.S:= .kJ (168 59 [35e5])
def akk(P:PP)(d:I)(O:1e0)(a n s:K)(w:V)(o:2e1):ci (apy P 9 (d+1)) (168 59 [35e5]) (198 [(42,0e2),(9,0e3),(55,0e8),(58,w)] [])= 123 18e6 ⟨O++[.a7 51 [(58,w)]],[(42,0e2),(9,0e3),(55,0e8),(58,w)],[]⟩:=ar
def akl(n0:I):V->MS->2e9:=λv bQ=>gO v 140 λi=>gB (I.g4 n0 i) 150 (gN (bQ.dL i) 150 λo=>A4 o i bQ)
def akm:av (d+1) (.s y1) O [(42,0e2),(9,0e3),(55,0e8),(58,w)] (.a7 O.U (O++[.a7 51 [(58,w)]]) []):=by
 have S:=hR (d+1) 10 (.s y1) (198 [(42,0e2),(9,0e3),(55,0e8),(58,w)] []);have e:115 av 10 (d+1) (.s y1) O [(42,0e2),(9,0e3),(55,0e8),(58,w)] []= .a7 O.U ⟨O++[.a7 51 [(58,w)]],[(42,0e2),(9,0e3),(55,0e8),(58,w)],[]⟩ []:=by
  have e0:115 av 10 (d+1) (.s y1) O [(42,0e2),(9,0e3),(55,0e8),(58,w)] []=(ci (apy av 9 (d+1)) (168 59 [35e5]) (198 [(42,0e2),(9,0e3),(55,0e8),(58,w)] [])).aE (akl O.U):=ar;rw[e0,akk _ _ _ _ _ _ _ []];refine 278 (gB (I.g4 O.U O.U) 150 (gN (MS.dL _ O.U) 150 λo=>A4 o O.U _))=_;rw[Nz,I.Us.bl 11e7];rfl
 rw[e]at S;intro o1 o2;show⟨λk sc f c x J s' Q EE Y l hz m j P=>S.1 k sc f c x J s' Q EE Y l hz m (gP j) ⟨λapp h=>(nomatch h),λaB i u v p apv r=>P.2 aB i u v (gP p) apv r⟩,λk sc apq B t b q=>(by cases q)⟩
def akn(s:Internal.S):al:=match s with
 | .kJ e=>(e.xF.cq λp=>p.1.g?).fN (I.bX 59)
 |_=>false
def ako:Tk->al:=λtk=>match tk with
 | .s s=>akn s
 |_=>false
def akp(P:PP)(d:I)(O:1e0)(T:0e1)(a n s:K)(w:V):fT (227 20 2 459 [0e2,0e3,0e8,w] [1e9,1e9,6e7,.ec ako λh os l=> .a7 os.U (os++[.a7 51 [(58,w)]]) []])= .a7 O.U ⟨O++[.a7 51 [(58,w)]],[],[]⟩ [bJ (a<0)=false,bJ (n<0)=false,bJ (s<a+n)=true,P (d+1) (.s y1) O [(42,0e2),(9,0e3),(55,0e8),(58,w)] (.a7 O.U (O++[.a7 51 [(58,w)]]) [])]:=ar
def kq{d:I}{a n s:K}{t1 t2 t3:al}{w:V}(h:0<=a/\0<=n/\s<a+n):jP av (d+2) 459 [.y a t1,.y n t2,.y s t3,w] w:=by
 intro O T;exact ut Wh (NF (akp av d O T a n s w) (28 (125 h.1) (125 h.2.1) (eE h.2.2) akm) 17e5)
def Wm(x:bd):25e6<256:=by have:=x.C0;exact K.NG.mp a9
def akq(x:bd)(k:K)(h:0<=k/\k<=1000):a8 .px 25e6 k=true:=by
 have h1:=Wm x;show al.mB.bl ⟨al.mB.bl ⟨eE h.1,eE bM⟩,eE ?_⟩;have:(25e6).ty=x.aI:=by exact K.natAbs_natCast x.aI
 rw[a9];exact I.mF x.C0 ap
def y2:4e9->I->K->K
 | [],_,a=>a
 |x::l,k,a=>y2 l (k+8) (Builtin.Ke a (25e6*2^k))
def NH:4e9->K->6e1
 | [],_=>[]
 |x::l,k=>(a8 .px 25e6 k=true)::NH l (k+8)
def akr(l:4e9):∀(k:I) (a:K),0<=a->a<2^k->y2 l k a=a+2^k*gk l:=by
 induction l with
 |aQ=>exact λk a r r=>(bB (a+ ·) (K.mul_zero _)).aU (K.add_zero a) |>.bh
 |aP x l b=>
  intro k a h0 h1;have p:=Wm x;have s:(0:K)<=x.aI:=K.nQ _;refine y2 l (k+8) (Builtin.Ke a (25e6*2^k))=a+2^k*(25e6+256*gk l);have e:(2:K)^(k+8)=2^k*256:=K.pow_add ..;have hm:25e6*2^k<=255*2^k:=K.mul_le_mul_of_nonneg_right (K.le_of_lt_add_one p) (K.CZ ap);have h:0<=25e6*2^k:=K.Wk s (K.CZ ap);rw[akj a _ k h0 h1 s,b (k+8) _ (K.Wn h0 h) (by rw[e];lia),e,K.mul_add,K.R9 (2^k) 25e6,<-K.mul_assoc,K.Wo]
def aks(l:4e9):∀k:K,0<=k->k+8*l.U<=1000->∀p∈NH l k,p:=by
 induction l with
 |aQ=>exact λk s s=>a4
 |aP x l h=>exact λk h0 h1=>have h1:k+8*((l.U+1:I):K)<=1000:=h1;ac (akq x k ⟨h0,bM⟩) (h (k+8) bM bM)
def akt(xs:4e9):Prop:=∀(P:PP) (d:I) (O:1e0) (T:0e1),227 30 1 447 [.eh xs] []= 93 (2 (y2 xs 0 0)) O (NH xs 0)
def C1(h:akt xs)(s:xs.U<=8):58 av (d+1) 447 [.eh xs] 20e4:=by
 intro O T;have e:20e4=y2 xs 0 0:=((akr xs 0 0 (K.eC 0) ap).aU ((K.zero_add _).aU (K.one_mul _))).bh;rw[e];exact iY (h av d O T) (aks xs 0 (K.eC 0) bM) 17e5
def aku:58 av (d+1) 447 [.eh [x0]] (gk [x0]):=54e7
def akv:58 av (d+1) 447 [.eh [x0,x1]] (gk [x0,x1]):=54e7
def akw:58 av (d+1) 447 [.eh [x0,x1,x2,x3]] (gk [x0,x1,x2,x3]):=54e7
def akx:58 av (d+1) 447 [.eh [x0,x1,x2,x3,aqH,aqI,aqJ,aqK]] (gk [x0,x1,x2,x3,aqH,aqI,aqJ,aqK]):=54e7
def WidR(n b W W1 apz B1:K)(t:al):Prop:=∀(P:PP) (d:I) (O:1e0) (T:0e1) (x:K),227 30 2 105 [6e6,0 n,0 b] [.b t]= 93 (2 (Builtin.i7 (cB t (345 W1-W) (345 W1)) B1)) O [a8 .xn (345 W1) (n-1)=true,bJ ((345 W1).aK apz≠0)=t]
def y3(r1:WidR n b W W1 apz B1 true)(m:WidR n b W W1 apz B1 false)(a:∀x,345 W1=x % W)(p:∀x,345 B1=x % B)(h:0<apz/\0<W/\W<=B/\0<=n-1)
  (e:m3 x n b=if apz<=x % W then(x % W-W) % B else x % W):58 av (d+2) 105 [6e6,0 n,0 b] (m3 x n b):=by
 intro O T;(show lG h λh1 h2 h3 s=>?_;try clear h);have hm:=K.nh x (K.u9 h2);have k:=K.NI (x % W) (K.jx h1);rw[e];by_cases q:apz<=x % W
 ·have r:=r1 av d O T x;rw[a,p,k]at r;rw[eX q];exact iY r (24 (eE s) (eE λz=>bL (K.le_ediv_of_mul_le h1 (by rw[K.one_mul];exact q):1<=x % W/apz) (by rw[z];decide))) 17e5
 ·have r:=m av d O T x;rw[a,p,k]at r;have r:_=R.aS (A.v (V.y (x % W % B) true)) _ _:=r;rw[K.Wp hm (K.mF (K.n8 x h2) h3)]at r;rw[d5 q];exact iY r (24 (eE s) (fX λz=>z (K.ediv_eq_zero_of_lt hm (K.jV.mp q)))) 17e5
def aky:58 av (d+2) 105 [6e6,0 8,29e0] (m3 x 8 32):=383 256 255 128 4294967296 4294967295 y4 C2 ap H
def akz:58 av (d+2) 105 [6e6,4e0,29e0] (m3 x 16 32):=383 65536 65535 32768 4294967296 4294967295 Wq C2 ap H
def akA:58 av (d+2) 105 [6e6,0 8,17e2] (m3 x 8 64):=383 256 255 128 18446744073709551616 18446744073709551615 y4 y0 ap H
def akB:58 av (d+2) 105 [6e6,4e0,17e2] (m3 x 16 64):=383 65536 65535 32768 18446744073709551616 18446744073709551615 Wq y0 ap H
def akC:58 av (d+2) 105 [6e6,29e0,17e2] (m3 x 32 64):=383 4294967296 4294967295 2147483648 18446744073709551616 18446744073709551615 C2 y0 ap H
def Ws(P:PP)(d:I)(O:1e0)(T:0e1)(s n apt:K):227 30 1 478 [0e8,0e3,0e6,40e3] [1e9,6e7]= 93 0e6 O [bJ (n<0)=false,bJ (apt<(s+n))=true]/\
  227 30 1 478 [0e8,0e3,0e6,40e3] [1e9,1e9]= 93 (2 (s+n)) O [bJ (n<0)=false,bJ (apt<(s+n))=false]:=⟨ar,ar⟩
def akD(h0:0<=n)(h:s+n<=apt):58 av (d+1) 478 [0e8,0e3,0e6,40e3] (s+n):=λO T=>
 iY (Ws av d O T s n apt).2 (24 (125 h0) (125 h)) (17e5)
def akE(h0:0<=n)(h:¬(s+n<=apt)):cr av (d+1) 478 [0e8,0e3,0e6,40e3] 0e6:=λO T=>
 iY (Ws av d O T s n apt).1 (24 (125 h0) (eE (K.jV.mp h))) (17e5)
def NJ(P:PP)(d:I)(O:1e0)(T:0e1)(s n m apt:K):227 30 1 478 [0e8,0e3,0 m,40e3] [1e9,6e7]= 93 0e6 O [bJ (n<0)=false,bJ (apt<(s+n))=true]/\
  227 30 1 478 [0e8,0e3,0 m,40e3] [1e9,1e9,6e7]= 93 0e6 O [bJ (n<0)=false,bJ (apt<(s+n))=false,bJ (m<(s+n))=true]/\
  227 30 1 478 [0e8,0e3,0 m,40e3] [1e9,1e9,1e9]= 93 (2 (s+n)) O [bJ (n<0)=false,bJ (apt<(s+n))=false,bJ (m<(s+n))=false]:=⟨ar,ar,ar⟩
def NK(h0:0<=n)(h:s+n<=apt/\s+n<=m):58 av (d+1) 478 [0e8,0e3,0 m,40e3] (s+n):=λO T=>
 iY (NJ av d O T s n m apt).2.2 (129 (125 h0) (125 h.1) (125 h.2)) (17e5)
def NL(h0:0<=n)(h:¬(s+n<=apt/\s+n<=m)):cr av (d+1) 478 [0e8,0e3,0 m,40e3] 0e6:=λO T=>by
 by_cases q:s+n<=apt
 ·exact iY (NJ av d O T s n m apt).2.1 (129 (125 h0) (125 q) (eE (K.jV.mp λz=>h ⟨q,z⟩))) 17e5
 ·exact iY (NJ av d O T s n m apt).1 (24 (125 h0) (eE (K.jV.mp q))) 17e5
universe e
section
open PySem PySem.W
set_option backward.match.sparseCases false
def Wt(P:PP)(sh:Sh)(b:MB)(k k1:K)(T:0e1)(n:K)(aC:0e0):45 [5e8,0e3] aC [240 84 47e5]=40 b (2 47e5::aC) [58 P 36 84 [0e3,29e0] 47e5,aC.U+1<=16777216]:=by revert sh;show 4e3;kernel_rfl
def akF(P:PP)(sh:Sh)(b:MB)(k k1:K)(T:0e1)(n:K)(aC:0e0):45 [21e5,0e3] aC [240 84 50e4]=40 b (2 50e4::aC) [58 P 36 84 [0e3,17e2] 50e4,aC.U+1<=16777216]:=by revert sh;show 4e3;kernel_rfl
def akG(P:PP)(sh:Sh)(b:MB)(k k1:K)(T:0e1)(n:K)(aC:0e0):45 [0 208,0e3] aC []=40 b (0e6::aC) 25e2:=by revert sh;show 4e3;kernel_rfl
def akH(P:PP)(sh:Sh)(b:MB)(k k1:K)(T:0e1)(n v:K)(aC:0e0):45 [0 210,0e3] aC [.v (0 v)]=40 b (0 v::aC) [(dm [1e3,1e8,0e7,10e8,3e8,3e4] n)=G (0 v),aC.U+1<=16777216]:=by revert sh;show 4e3;kernel_rfl
def akI(P:PP)(sh:Sh)(b:MB)(k k1:K)(T:0e1)(aC:0e0):45 [29e0,0e7] aC []=40 b (0 9::aC) 25e2:=by revert sh;show 4e3;kernel_rfl
def akJ(P:PP)(sh:Sh)(b:MB)(k k1:K)(T:0e1)(aC:0e0):45 [43e1] (0e6::aC) []=40 b (1e3::aC) 25e2:=by revert sh;show 4e3;kernel_rfl
def akK(P:PP)(sh:Sh)(b:MB)(k k1:K)(T:0e1)(v:K)(aC:0e0):45 [43e1] (0 v::aC) []=40 b (0e7::aC) 25e2:=by revert sh;show 4e3;kernel_rfl
def akL(P:PP)(sh:Sh)(b:MB)(k k1:K)(T:0e1)(aC:0e0):45 [16e3,0e7] aC []=40 b (31e5::aC) 25e2:=by revert sh;show 4e3;kernel_rfl
def akM(P:PP)(sh:Sh)(b:MB)(k k1:K)(T:0e1)(aC:0e0):45 [16e3,1e3] aC []=40 b (31e4::aC) 25e2:=by revert sh;show 4e3;kernel_rfl
def akN(P:PP)(sh:Sh)(b:MB)(k k1:K)(T:0e1)(aC:0e0):cF P sh 44e7 k k1 (.X [16e3,1e8]) aC T []=40 44e7 (0e6::aC) 25e2:=by revert sh;show 4e3;kernel_rfl
def akO(P:PP)(sh:Sh)(b:MB)(k k1:K)(T:0e1)(v:K)(aC:0e0):cF P sh (337 v) k k1 (.X [16e3,1e8]) aC T []=40 (337 v) (0 v::aC) 25e2:=by revert sh;show 4e3;kernel_rfl
def akP(P:PP)(sh:Sh)(b:MB)(k k1:K)(T:0e1)(v:K)(aC:0e0):45 [21e4,0e7] (2 v::aC) []=40 {b with c0:=v} aC []:=by revert sh;show 4e3;kernel_rfl
def akQ(P:PP)(sh:Sh)(b:MB)(k k1:K)(T:0e1)(v:K)(aC:0e0):45 [21e4,1e3] (2 v::aC) []=40 {b with c1:=v} aC []:=by revert sh;show 4e3;kernel_rfl
def akR(P:PP)(sh:Sh)(b:MB)(k k1:K)(T:0e1)(v:V)(aC:0e0):45 [21e4,1e8] (v::aC) []=40 {b with c2:=v} aC []:=by revert sh;show 4e3;kernel_rfl
def akS(P:PP)(sh:Sh)(b:MB)(k k1:K)(T:0e1):45 [0 63] [] []=40 b [2 ((10e2).aK 16)] [15 10e2 16=true,1<=16777216]:=by revert sh;show 4e3;kernel_rfl
def akT(P:PP)(sh:Sh)(b:MB)(k k1:K)(T:0e1)(n:K):45 [17e2] [0e3] [228 478 0e6]=40 b [44e6] [15 10e2 16=true,cr P 33 478 [2 ((10e2).aK 16),0e3,1e8,3e4] 0e6,1<=16777216]:=by revert sh;show 4e3;kernel_rfl
def akU(P:PP)(sh:Sh)(b:MB)(k k1:K)(T:0e1)(n:K):45 [17e2] [0e3] [240 478 (((10e2).aK 16)+n)]=40 {b with aN:=(b.aN++(D.gi ((n*16)).aI (0:bd)))} [2 ((10e2).aK 16)] [15 10e2 16=true,58 P 33 478 [2 ((10e2).aK 16),0e3,1e8,3e4] (((10e2).aK 16)+n),a8 .f4 n 16=true,bJ (0<=(n*16)/\(n*16)<=16777216)=true,b.aN.U+(D.gi ((n*16)).aI (0:bd)).U<=16777216,1<=16777216]:=by revert sh;show 4e3;kernel_rfl
def akV(P:PP)(sh:Sh)(b:MB)(k k1:K)(T:0e1)(n s a:K):94 b [16e1] [0e3,0e8,0e2] [39e5]=148 b (58,2e7) [jP P 32 459 [0e2,0e3,22e8,2e7] 2e7]:=by revert sh;show 4e3;kernel_rfl
def akW(P:PP)(sh:Sh)(b:MB)(k k1:K)(T:0e1)(n s a:K):45 [16e1] [0e3,0e8,0e2] [13e2]=40 {b with aN:=(204 b.aN (dM [279 ((339 s))] n))} [] [196 [0e2,0e3,22e8,2e7],([(339 s)].dI (291 (i<256)))=true,xt [279 ((339 s))] n=true,b.aN.U+(dM [279 ((339 s))] n).U<=16777216]:=by revert sh;show 4e3;kernel_rfl
def akX(P:PP)(sh:Sh)(b:MB)(k k1:K)(T:0e1)(n s a:K):94 b [20e9] [0e3,0e8,0e2] [39e5]=148 b (58,2e7) [jP P 32 459 [0e8,0e3,22e8,2e7] 2e7]:=by revert sh;show 4e3;kernel_rfl
def akY(P:PP)(sh:Sh)(b:MB)(k k1:K)(T:0e1)(n s a:K):94 b [20e9] [0e3,0e8,0e2] [13e2,39e5]=148 b (58,2e7) [196 [0e8,0e3,22e8,2e7],jP P 32 459 [0e2,0e3,22e8,2e7] 2e7]:=by revert sh;show 4e3;kernel_rfl
def akZ(P:PP)(sh:Sh)(b:MB)(k k1:K)(T:0e1)(n s a:K):45 [20e9] [0e3,0e8,0e2] [13e2,13e2]=40 {b with aN:=(212 b.aN)} [] [196 [0e8,0e3,22e8,2e7],196 [0e2,0e3,22e8,2e7],b.aN.U+(50 b.aN s (s+n)).U<=16777216]:=by revert sh;show 4e3;kernel_rfl
def ak0(P:PP)(sh:Sh)(b:MB)(k k1:K)(T:0e1)(i:K)(h:16e0)(n s a:K)(dt:4e9):94 23e2 [8e6,6e5] [0e3,0e8,0e2] [39e5]=148 23e2 (58,2e7) [jP P 33 459 [0e8,0e3,2 (dt.U:K),2e7] 2e7]:=by revert sh;show 4e3;replace h:=mz h;revert i h;show 3e1;kernel_rfl
def ak1(P:PP)(sh:Sh)(b:MB)(k k1:K)(T:0e1)(i:K)(h:16e0)(n s a:K)(dt:4e9):94 23e2 [8e6,6e5] [0e3,0e8,0e2] [13e2,39e5]=148 23e2 (58,2e7) [235 P 33 [0e8,0e3,2 (dt.U:K),2e7],jP P 32 459 [0e2,0e3,22e8,2e7] 2e7]:=by revert sh;show 4e3;replace h:=mz h;revert i h;show 3e1;kernel_rfl
def ak2(P:PP)(sh:Sh)(b:MB)(k k1:K)(T:0e1)(i:K)(h:16e0)(n s a:K)(dt:4e9):cF P sh 23e2 k k1 (.X [8e6,6e5]) [0e3,0e8,0e2] T [13e2,13e2]=40 {(23e2)with aN:=(212 dt)} [] [235 P 33 [0e8,0e3,2 (dt.U:K),2e7],196 [0e2,0e3,22e8,2e7],b.aN.U+(50 dt s (s+n)).U<=16777216]:=by revert sh;show 4e3;replace h:=mz h;revert i h;show 3e1;kernel_rfl
def ak3(P:PP)(sh:Sh)(b:MB)(k k1:K)(T:0e1)(i:K)(h:16e0)(n s a:K):94 19e8 [8e6,6e5] [0e3,0e8,0e2] [39e5]=148 19e8 (58,2e7) [jP P 33 459 [0e8,0e3,12e8,2e7] 2e7]:=by revert sh;show 4e3;replace h:=mz h;revert i h;show 3e1;kernel_rfl
def ak4(P:PP)(sh:Sh)(b:MB)(k k1:K)(T:0e1)(i:K)(h:16e0)(n s a:K):94 19e8 [8e6,6e5] [0e3,0e8,0e2] [13e2,39e5]=148 19e8 (58,2e7) [235 P 33 [0e8,0e3,12e8,2e7],jP P 32 459 [0e2,0e3,22e8,2e7] 2e7]:=by revert sh;show 4e3;replace h:=mz h;revert i h;show 3e1;kernel_rfl
def ak5(P:PP)(sh:Sh)(b:MB)(k k1:K)(T:0e1)(i:K)(h:16e0)(n s a:K):cF P sh 19e8 k k1 (.X [8e6,6e5]) [0e3,0e8,0e2] T [13e2,13e2]=40 {(19e8)with aN:=(212 ([]:4e9))} [] [235 P 33 [0e8,0e3,12e8,2e7],196 [0e2,0e3,22e8,2e7],b.aN.U+(50 ([]:4e9) s (s+n)).U<=16777216]:=by revert sh;show 4e3;replace h:=mz h;revert i h;show 3e1;kernel_rfl
def ak6(P:PP)(sh:Sh)(b:MB)(k k1:K)(T:0e1)(i:K)(s:16e0):45 [48e7,6e5] [] []=40 19e8 [] []:=by revert sh;show 4e3;replace s:=mz s;revert i s;show 3e1;kernel_rfl
def ak7(P:PP)(sh:Sh)(b:MB)(k k1:K)(T:0e1)(t:K)(s:7e3)(a:K)(v:V):94 b [38e2,1e1] [0e2] [39e6]=148 b (58,3e9) [jP P 32 459 [0e2,1e3,21e0,3e9] 3e9]:=by revert sh;show 4e3;replace s:=20e7;revert t s;show 3e1;kernel_rfl
def ak8(P:PP)(sh:Sh)(b:MB)(k k1:K)(T:0e1)(t:K)(s:7e3)(a:K)(v:V):45 [38e2,1e1] [0e2] [13e2,.v v]=40 b [v] [196 [0e2,1e3,21e0,3e9],16e4=2e5,1<=16777216]:=by revert sh;show 4e3;replace s:=20e7;revert t s;show 3e1;kernel_rfl
def ak9(P:PP)(sh:Sh)(b:MB)(k k1:K)(T:0e1)(t:K)(s:7e3)(a:K)(v:V):94 b [0 38,1e1] [v,0e2] [39e6]=148 b (58,3e9) [jP P 32 459 [0e2,1e3,21e0,3e9] 3e9]:=by revert sh;show 4e3;replace s:=20e7;revert t s;show 3e1;kernel_rfl
def ala(P:PP)(sh:Sh)(b:MB)(k k1:K)(T:0e1)(t:K)(s:7e3)(a:K)(v:V):45 [0 38,1e1] [v,0e2] [13e2]=40 (226 (D.cM 10e3 (a).aI v)) [] [196 [0e2,1e3,21e0,3e9],bJ (0<=a/\a<5e2)=true]:=by revert sh;show 4e3;replace s:=20e7;revert t s;show 3e1;kernel_rfl
def alb(P:PP)(sh:Sh)(b:MB)(k k1:K)(T:0e1)(t:K)(s:7e3):45 [48e8,1e1] [] []=40 b [21e0] (288 1):=by revert sh;show 4e3;replace s:=20e7;revert t s;show 3e1;kernel_rfl
def alc(P:PP)(sh:Sh)(b:MB)(k k1:K)(T:0e1)(t:K)(s:7e3)(n:K)(v:V):45 [39e3,1e1] [0e3,v] [228 478 0e6]=40 b [44e6] [cr P 33 478 [21e0,0e3,A7 t,16e9] 0e6,1<=16777216]:=by revert sh;show 4e3;replace s:=20e7;revert t s;show 3e1;kernel_rfl
def ald(P:PP)(sh:Sh)(b:MB)(k k1:K)(T:0e1)(t:K)(s:7e3)(n:K)(v:V):45 [39e3,1e1] [0e3,v] [240 478 (5e2+n)]=40 (226 (10e3++35e9)) [21e0] [58 P 33 478 [21e0,0e3,A7 t,16e9] (5e2+n),jM n=true,(35e9).U<=16777216,((10e3++35e9)).U<=16777216,1<=16777216]:=by revert sh;show 4e3;replace s:=20e7;revert t s;show 3e1;kernel_rfl
def ale(P:PP)(sh:Sh)(b:MB)(k k1:K)(T:0e1)(t:K)(s:7e3)(n a:K)(v:V):94 b [33e9,1e1] [0e3,v,0e2] [39e6]=148 b (58,3e9) [jP P 31 459 [0e2,0e3,21e0,3e9] 3e9]:=by revert sh;show 4e3;replace s:=20e7;revert t s;show 3e1;kernel_rfl
def alf(P:PP)(sh:Sh)(b:MB)(k k1:K)(T:0e1)(t:K)(s:7e3)(n a:K)(v:V):45 [33e9,1e1] [0e3,v,0e2] [13e2]=40 (226 (204 10e3 35e9)) [] [235 P 31 [0e2,0e3,21e0,3e9],jM n=true,(35e9).U<=16777216,(10e3).U+(35e9).U<=16777216]:=by revert sh;show 4e3;replace s:=20e7;revert t s;show 3e1;kernel_rfl
def alg(P:PP)(sh:Sh)(b:MB)(k k1:K)(T:0e1)(x app:K)(h:CP x app)(n s a:K):94 b [28e7,0 x,17e1] [0e3,0e8,0e2] [39e6]=148 b (58,3e9) [jP P 31 459 [0e8,0e3,2 50e9,3e9] 3e9]:=by revert sh;show 4e3;replace h:=xL h;revert x app h;show 13e7;kernel_rfl
def alh(P:PP)(sh:Sh)(b:MB)(k k1:K)(T:0e1)(x app:K)(h:CP x app)(n s a:K):94 b [28e7,0 x,17e1] [0e3,0e8,0e2] [13e2,39e6]=148 b (58,3e9) [235 P 31 [0e8,0e3,2 50e9,3e9],jP P 31 459 [0e2,0e3,2 54e9,3e9] 3e9]:=by revert sh;show 4e3;replace h:=xL h;revert x app h;show 13e7;kernel_rfl
def ali(P:PP)(sh:Sh)(b:MB)(k k1:K)(T:0e1)(x app:K)(h:CP x app)(n s a:K):45 [28e7,0 x,17e1] [0e3,0e8,0e2] [13e2,13e2]=40 (b.eZ x (234 (b.tb x) 18e5)) [] [235 P 31 [0e8,0e3,2 50e9,3e9],235 P 31 [0e2,0e3,2 54e9,3e9],((50 18e5 s (s+n))).U<=16777216,(b.tb x).U+((50 18e5 s (s+n))).U<=16777216]:=by revert sh;show 4e3;replace h:=xL h;revert x app h;show 13e7;kernel_rfl
def alj(P:PP)(sh:Sh)(b:MB)(k k1:K)(T:0e1)(e t:K)(h:IN e t)(n s a:K)(dt:0e0):94 23e3 [8e7,11e5,1e1] [0e3,0e8,0e2] [39e6]=148 23e3 (58,3e9) [jP P 32 459 [0e8,0e3,2 (dt.U:K),3e9] 3e9]:=by revert sh;show 4e3;replace h:=pJ h;revert e t h;show 13e7;kernel_rfl
def alk(P:PP)(sh:Sh)(b:MB)(k k1:K)(T:0e1)(e t:K)(h:IN e t)(n s a:K)(dt:0e0):94 23e3 [8e7,11e5,1e1] [0e3,0e8,0e2] [13e2,39e6]=148 23e3 (58,3e9) [196 [0e8,0e3,2 (dt.U:K),3e9],jP P 31 459 [0e2,0e3,21e0,3e9] 3e9]:=by revert sh;show 4e3;replace h:=pJ h;revert e t h;show 13e7;kernel_rfl
def m_tinb2(P:PP)(sh:Sh)(b:MB)(k k1:K)(T:0e1)(e t:K)(h:IN e t)(n s a:K)(dt:0e0):cF P sh 23e3 k k1 (.X [8e7,11e5,1e1]) [0e3,0e8,0e2] T [13e2,13e2]=40 ((23e3).eZ t (319 dt)) [] [196 [0e8,0e3,2 (dt.U:K),3e9],235 P 31 [0e2,0e3,21e0,3e9],((50 dt s (s+n))).U<=16777216,(10e3).U+((50 dt s (s+n))).U<=16777216]:=by revert sh;show 4e3;replace h:=pJ h;revert e t h;show 13e7;kernel_rfl
def m_tinn0(P:PP)(sh:Sh)(b:MB)(k k1:K)(T:0e1)(e t:K)(h:IN e t)(n s a:K):94 23e8 [8e7,11e5,1e1] [0e3,0e8,0e2] [39e6]=148 23e8 (58,3e9) [jP P 32 459 [0e8,0e3,0e7,3e9] 3e9]:=by revert sh;show 4e3;replace h:=pJ h;revert e t h;show 13e7;kernel_rfl
def m_tinn1(P:PP)(sh:Sh)(b:MB)(k k1:K)(T:0e1)(e t:K)(h:IN e t)(n s a:K):94 23e8 [8e7,11e5,1e1] [0e3,0e8,0e2] [13e2,39e6]=148 23e8 (58,3e9) [196 [0e8,0e3,0e7,3e9],jP P 31 459 [0e2,0e3,21e0,3e9] 3e9]:=by revert sh;show 4e3;replace h:=pJ h;revert e t h;show 13e7;kernel_rfl
def m_tinn2(P:PP)(sh:Sh)(b:MB)(k k1:K)(T:0e1)(e t:K)(h:IN e t)(n s a:K):cF P sh 23e8 k k1 (.X [8e7,11e5,1e1]) [0e3,0e8,0e2] T [13e2,13e2]=40 ((23e8).eZ t 49e9) [] [196 [0e8,0e3,0e7,3e9],235 P 31 [0e2,0e3,21e0,3e9],((50 27e2 s (s+n))).U<=16777216,(10e3).U+((50 27e2 s (s+n))).U<=16777216]:=by revert sh;show 4e3;replace h:=pJ h;revert e t h;show 13e7;kernel_rfl
def m_edr(P:PP)(sh:Sh)(b:MB)(k k1:K)(T:0e1)(i:K)(s:16e0):45 [48e9,6e5] [] []=40 (b.fB i 0e6) [] []:=by revert sh;show 4e3;replace s:=mz s;revert i s;show 3e1;kernel_rfl
def m_inx(P:PP)(sh:Sh)(b:MB)(k k1:K)(T:0e1)(q t i:K)(v:V)(z:am):94 b [4e1,10e7,1e1] [14e8,v] [299 46e2 (205 24e9 b k1 [v] 51 [(58,7e8)] l)]=gw 24e9 (138 b k1 [v] 51 [(58,7e8)]) [P 35 (271 [7e9,3e7,.X [4e1,10e7,1e1]]) (101 b [14e8,v]) [(164,7e9),(207,3e7),(43,.X [4e1,10e7,1e1]),(6,4e1)] (205 24e9 b k1 [v] 51 [(58,7e8)] [(164,7e9),(207,3e7),(43,.X [4e1,10e7,1e1]),(6,4e1)])]:=by revert sh;show 4e3;kernel_rfl
def m_inx2(P:PP)(sh:Sh)(b:MB)(k k1:K)(T:0e1)(q t i:K)(v w:V)(z:am):94 b [4e1,10e7,1e1] [14e8,v,w] [299 46e2 (205 24e9 b k1 [v,w] 51 [(58,7e8)] l)]=gw 24e9 (138 b k1 [v,w] 51 [(58,7e8)]) [P 35 (271 [7e9,3e7,.X [4e1,10e7,1e1]]) (101 b [14e8,v,w]) [(164,7e9),(207,3e7),(43,.X [4e1,10e7,1e1]),(6,4e1)] (205 24e9 b k1 [v,w] 51 [(58,7e8)] [(164,7e9),(207,3e7),(43,.X [4e1,10e7,1e1]),(6,4e1)])]:=by revert sh;show 4e3;kernel_rfl
def m_tlx(P:PP)(sh:Sh)(b:MB)(k k1:K)(T:0e1)(q t i:K)(v:V)(z:am):94 b [8e3,10e7,1e1] [14e8,v] [299 46e2 (205 24e9 b k1 [v] 51 [(58,7e8)] l)]=gw 24e9 (138 b k1 [v] 51 [(58,7e8)]) [P 35 (271 [7e9,3e7,.X [8e3,10e7,1e1]]) (101 b [14e8,v]) [(164,7e9),(207,3e7),(43,.X [8e3,10e7,1e1]),(6,8e3)] (205 24e9 b k1 [v] 51 [(58,7e8)] [(164,7e9),(207,3e7),(43,.X [8e3,10e7,1e1]),(6,8e3)])]:=by revert sh;show 4e3;kernel_rfl
def m_fin(P:PP)(sh:Sh)(b:MB)(k k1:K)(T:0e1)(au:0e0):45 [21e3] au []=d9 (Kq sh b k1 au) T []:=by revert sh;show 4e3;kernel_rfl
def m_tlk(P:PP)(sh:Sh)(h:15e0)(b:MB)(k k1:K)(T:0e1)(t i:K)(v:V):45 [8e3,1e3,1e1] [14e8,v] [299 46e2 (36 1e8 (101 b [v]) l)]=d9 (xJ sh {b with no:=(b.no++[.X [1e3,6 [v]]])} k1 [v]) T [P 35 (271 [7e9,3e7,.X [8e3,1e3,1e1]]) (101 b [14e8,v]) [(164,7e9),(207,3e7),(43,.X [8e3,1e3,1e1]),(6,8e3)] (36 1e8 (101 b [v]) [(164,7e9),(207,3e7),(43,.X [8e3,1e3,1e1]),(6,8e3)]),1<=16777216,1<=16777216,0<=16777216,1<=16777216,1<=16777216,b.no.U+1<=16777216,0<=16777216]:=by replace h:=nK h;revert sh h;show 3e1;kernel_rfl
def m_far3(P:PP)(sh:Sh)(h:15e0)(b:MB)(k k1:K)(T:0e1)(fa s:K):cF P sh 51e2 k k1 (.X [4e0,3e8]) [0e8,13e3] T []=d9 (pH sh {b with apr:=3,pk:=(jo b.pk 2)} k1 [0e8,13e3] fa s true) T (288 2):=by replace h:=nK h;revert sh h;show 3e1;kernel_rfl
def m_inf3(P:PP)(sh:Sh)(h:15e0)(b:MB)(k k1:K)(T:0e1)(t i fa s:K):cF P sh 51e2 k k1 (.X [4e1,3e8,1e1]) [14e8,0e8,13e3] T [.ec 46e2 λx x l=> 36 3e4 (101 51e2 [0e8,13e3]) l]=d9 (pH sh {b with apr:=3,pk:=(jo b.pk 2)} k1 [0e8,13e3] fa s true) T [P 35 (271 [7e9,3e7,.X [4e1,3e8,1e1]]) (101 51e2 [14e8,0e8,13e3]) [(164,7e9),(207,3e7),(43,.X [4e1,3e8,1e1]),(6,4e1)] (36 3e4 (101 51e2 [0e8,13e3]) [(164,7e9),(207,3e7),(43,.X [4e1,3e8,1e1]),(6,4e1)]),2<=16777216]:=by replace h:=nK h;revert sh h;show 3e1;kernel_rfl
def m_far1(P:PP)(sh:Sh)(h:15e0)(b:MB)(k k1:K)(T:0e1)(fa s:K):94 44e8 [4e0,3e8] [0e8,13e3] []=gw 24e9 (138 44e8 k1 [0e8,13e3] 63 [(58,14e5)]) []:=by replace h:=nK h;revert sh h;show 3e1;kernel_rfl
def m_inf1(P:PP)(sh:Sh)(h:15e0)(b:MB)(k k1:K)(T:0e1)(t i fa s:K):94 44e8 [4e1,3e8,1e1] [14e8,0e8,13e3] [.ec 46e2 λx x l=> 36 3e4 (101 44e8 [0e8,13e3]) l]=gw 24e9 (138 44e8 k1 [0e8,13e3] 63 [(58,14e5)]) [P 35 (271 [7e9,3e7,.X [4e1,3e8,1e1]]) (101 44e8 [14e8,0e8,13e3]) [(164,7e9),(207,3e7),(43,.X [4e1,3e8,1e1]),(6,4e1)] (36 3e4 (101 44e8 [0e8,13e3]) [(164,7e9),(207,3e7),(43,.X [4e1,3e8,1e1]),(6,4e1)])]:=by replace h:=nK h;revert sh h;show 3e1;kernel_rfl
def m_adu(P:PP)(sh:Sh)(h:15e0)(b:MB)(k1:K)(T:0e1)(c q a t:K)(s:19e3)(aC:0e0):fT (vo P sh b k1 (.X [1e5,10e7,1e1]) (0e2::aC) T [6e7])=gw 24e9 (138 b k1 aC 51 [(58,.ag xi)]) [bJ (5e2<=a)=true]:=by replace h:=nK h;revert sh h;show 3e1;replace s:=pI s;revert t s;show 3e1;kernel_rfl
def m_adn(P:PP)(sh:Sh)(h:15e0)(b:MB)(k1:K)(T:0e1)(c q a t:K)(s:19e3)(aC:0e0):fT (vo P sh b k1 (.X [1e5,10e7,1e1]) (0e2::aC) T [1e9,.v 0e6])=gw 24e9 (138 b k1 aC 51 [(58,.ag xj)]) [bJ (5e2<=a)=false,16e4=G 0e6]:=by replace h:=nK h;revert sh h;show 3e1;replace s:=pI s;revert t s;show 3e1;kernel_rfl
def m_adw(P:PP)(sh:Sh)(h:15e0)(b:MB)(k1:K)(T:0e1)(c q a t app:K)(x:Q3 q)(s:19e3)(r:Y6 app)(e:31e6≠q)(aC:0e0):fT (vo P sh b k1 (.X [1e5,10e7,1e1]) (0e2::aC) T [1e9,37e3,37e3])=gw 24e9 (138 b k1 aC 51 [(58,.ag xk)]) [bJ (5e2<=a)=false,16e4=34e4,16e4=34e4]:=by replace h:=nK h;revert sh h;show 3e1;replace s:=pI s;revert t s;show 3e1;replace x:=QN x r e;clear e r;revert q app x;show 13e7;kernel_rfl
def NM(P:PP)(sh:Sh)(h:15e0)(b:MB)(k1:K)(T:0e1)(c a t app:K)(s:19e3)(x:app=0\/app=2\/app=3)(aC:0e0):vo P sh b k1 (.X [1e5,49e5,1e1]) (0e2::aC) T [1e9,37e3,37e3,37e3]=QG 17e1 (101 b aC) T [bJ (5e2<=a)=false,16e4=34e4,16e4=34e4,16e4=34e4]:=by replace h:=nK h;revert sh h;show 3e1;replace s:=pI s;revert t s;show 3e1;replace x:=Y3_m x;revert app x;show 3e1;kernel_rfl
def m_ink(P:PP)(sh:Sh)(h:15e0)(b:MB)(k k1:K)(T:0e1)(q t i app:K)(s:app=0\/app=2)(v:V):45 [4e1,10e7,1e1] [14e8,v] [.ec 46e2 λx x l=> 36 17e1 (101 b [v]) l]=d9 (vm sh {b with no:=(b.no++[.X [49e5,6 [v]]])} k1 [v] [] [3e7]) T [P 35 (271 [7e9,3e7,.X [4e1,10e7,1e1]]) (101 b [14e8,v]) [(164,7e9),(207,3e7),(43,.X [4e1,10e7,1e1]),(6,4e1)] (36 17e1 (101 b [v]) [(164,7e9),(207,3e7),(43,.X [4e1,10e7,1e1]),(6,4e1)]),1<=16777216,1<=16777216,b.no.U+1<=16777216,0<=16777216]:=by replace h:=nK h;revert sh h;show 3e1;replace s:=pI s;revert app s;show 3e1;kernel_rfl
def m_host(P:PP)(sh:Sh)(h:15e0)(b:MB)(k k1:K)(T:0e1)(f:K)(s:f=1\/f=2\/f=3\/f=4)(v:V):45 [4e0,0 f] [v] []=d9 (vm sh {b with no:=(b.no++[.X [0 f,6 [v]]])} k1 [v] [] [3e7]) T [1<=16777216,1<=16777216,b.no.U+1<=16777216,0<=16777216]:=by replace h:=nK h;revert sh h;show 3e1;replace s:=QK s;revert f s;show 3e1;kernel_rfl
def m_ldx(P:PP)(sh:Sh)(b:MB)(k k1:K)(T:0e1)(c n a o:K)(s:LU c n\/∃q,LS c n q):94 b [1e5,0e7,12e6] [0e2] [39e5]=148 b (58,2e7) [jP P 32 459 [2 (a+o),0 n,22e8,2e7] 2e7]:=by revert sh;show 4e3;replace s:=QM s;revert c n s;show 13e7;kernel_rfl
def m_ld(P:PP)(sh:Sh)(b:MB)(k k1:K)(T:0e1)(c n a o:K)(xs:4e9)(s:LU c n):45 [1e5,0e7,12e6] [0e2] [13e2,.by xs,240 447 20e4]=40 b [2 20e4] [196 [2 (a+o),0 n,22e8,2e7],50 b.aN (a+o) (a+o+n)=xs,58 P 33 447 [.eh xs] 20e4,1<=16777216]:=by revert sh;show 4e3;replace s:=Kr s;revert c n s;show 13e7;kernel_rfl
def m_lds(P:PP)(sh:Sh)(b:MB)(k k1:K)(T:0e1)(c n q a o:K)(xs:4e9)(s:LS c n q):45 [1e5,0e7,12e6] [0e2] [13e2,.by xs,240 447 20e4,240 105 (m3 20e4 (8*n) q)]=40 b [2 (m3 20e4 (8*n) q)] [196 [2 (a+o),0 n,22e8,2e7],50 b.aN (a+o) (a+o+n)=xs,58 P 33 447 [.eh xs] 20e4,58 P 34 105 [2 20e4,0 (8*n),10e7] (m3 20e4 (8*n) q),1<=16777216]:=by revert sh;show 4e3;replace s:=QL s;revert c n q s;show tab3 _ ?_;kernel_rfl
def m_stx(P:PP)(sh:Sh)(b:MB)(k k1:K)(T:0e1)(c n a v o:K)(s:ST c n):94 b [1e5,0e7,12e6] [2 v,0e2] [39e5]=148 b (58,2e7) [jP P 32 459 [2 (a+o),0 n,22e8,2e7] 2e7]:=by revert sh;show 4e3;replace s:=Bb s;revert c n s;show 13e7;kernel_rfl
def m_st(P:PP)(sh:Sh)(h:15e0)(b:MB)(k k1:K)(T:0e1)(c n a v o:K)(s:ST c n):45 [1e5,0e7,12e6] [2 v,0e2] [13e2]=d9 (ej sh {b with aN:=bV b.aN (G (a+o)) (G (a+o+n)) ((36e6).aj λi=>279 (pG n v i))} k1 [] (16 ((36e6).aj λi=> 2 (pG n v i)))) T
  (196 [2 (a+o),0 n,22e8,2e7]::(((36e6).aj λ(i:I)=>a8 .xn (Builtin.i7 v (Ko n)) (8*(i:K))=true)++[(((36e6).aj (pG n v)).dI (291 (i<256)))=true,b.aN.U+n.aI<=16777216])):=by
 replace h:=nK h;revert sh h;show 3e1;replace s:=Bb s;revert c n s;show 13e7;kernel_rfl
universe e
section
open PySem PySem.W PyProof.Rows PySem.Calls PySem.Spec PySem.SeqAt
open Builtin hiding id
set_option backward.match.sparseCases false
structure l5(b:MB):Prop where
 m:∀i (f:I->I),(∀j,j<62->f j=j)->f9 f (b.m i)=b.m i
 B:∀f,bP f b.B=b.B
 T0:∀f,bP f b.T0=b.T0
 T1:∀f,bP f b.T1=b.T1
 T2:∀f,bP f b.T2=b.T2
 no:∀f,bP f b.no=b.no
 g:∀f,bP f b.g=b.g
 c2:∀f,cJ f b.c2=b.c2
 e0:∀f,cJ f b.e0=b.e0
 e1:∀f,cJ f b.e1=b.e1
 d0:∀f,cJ f b.d0=b.d0
 d1:∀f,cJ f b.d1=b.d1
def MB.o6(f:I->I)(b:MB):MB:={b with m:=λi=>f9 f 30e2,B:=bP f b.B,T0:=bP f b.T0,T1:=bP f b.T1,T2:=bP f b.T2,no:=bP f b.no,g:=bP f b.g,c2:=72 b.c2,e0:=72 b.e0,e1:=72 b.e1,d0:=72 b.d0,d1:=72 b.d1}
def MB.Wu{f:I->I}(s:l5 b)(hm:∀i,f9 f 30e2=30e2):b.o6 f=b:=by
 unfold MB.o6;rw[s.B,s.T0,s.T1,s.T2,s.no,s.g,s.c2,s.e0,s.e1,s.d0,s.d1,y5 hm]
def NN(n:I){f:I->I}(s:∀j,j<n->f j=j):(λj=>cB (I.jN j n) j (f j))=f:=y5 λj=>by
 cases h:I.jN j n with
 |true=>exact(s j (I.cy h)).bh
 |false=>rfl
def gm(fV:D I)(n:I):I->I:=λi=>(fV[i]?).ge (n+i)
def kp.sD{fV:D I}{O eV:1e0}{T:0e1}{hP:0e1}(h:fV.aj (λi=>(O[i]?).aj eI)=eV.aj λo=>G (eI (f9 (gm fV O.U) o)))(a:fV.dS)(b:∀k v,19 hP=2e5->∃v2,19e1=G v2/\dE v2=dE (cJ (gm fV O.U) v)):kp (gm fV O.U) O eV T hP:=by
 have x:fV.U=eV.U:=by
  have:=bB D.U h;simpa using a9
 show⟨λi o e=>?_,λi s=>?_,λi j s r e=>?_,b⟩
 ·have s:=(116 e);have e2:=bB (·[i]?) h;simp only[D.nX,e,aq.ta]at e2;rw[D.ic (x▸s)]at e2;simp only[aq.ta,aq.G.fu]at e2;have e3:gm fV O.U i=fV[i]'(x▸s):=by unfold gm;rw[D.ic (x▸s)];rfl
  rw[e3];show aM (aq.ha.mp e2) λo2 g1 g2=>?_;exact⟨o2,g1,g2⟩
 ·unfold gm;rw[D.q4 (by exact yp x s)];simp
 ·unfold gm at e;rw[D.ic (x▸s),D.ic (x▸r)]at e;exact(D.getElem_inj a).mp e
def gb.sD{apC:I}{fV:D I}{O eV:1e0}{T:0e1}{hP:0e1}(h:fV.aj (λi=>(O[i]?).aj eI)=eV.aj λo=>G (eI (f9 (gm fV O.U) o)))(e:fV.dS)(b:∀k v,19 hP=2e5->∃v2,19e1=G v2/\dE v2=dE (cJ (gm fV O.U) v))(x:fV.fG apC=D.dR apC):gb apC O eV T hP (gm fV O.U):=by
 have r:fV.U=eV.U:=by
  have:=bB D.U h;simpa using a9
 have a:apC<=fV.U:=by
  have:=bB D.U x;simp at a9;lia
 show⟨.sD h e b,λi s=>?_,r▸a⟩;have:=bB (·[i]?) x;simp only[D.NC s,D.uq s]at a9;unfold gm;rw[a9];rfl
def NO(h:n4 d t b apC (62 o) r):n4 d t b apC (62 o') r:=
 λk sc apq B h1 h2 x J aB h0 s Q EE Y e hz p m a apv P=>h k sc apq B h1 h2 x J aB h0 s Q EE Y e hz p m (gP a) apv P
def LM(O:1e0)(apu:K->fj):Prop:=∀dn o2,n4 38 rT my 62 ⟨O,8e1,[]⟩ ((apu dn).mY o2 [])
abbrev MC(sh:Sh)(b:MB)(k:I)(au:0e0)(apu:K->fj):Prop:=LM (i8 sh b k au) apu
def Wv{F:MS}:kT F (5 1018):=17e5
def cast1(k:I):(49e1)=(k:K)+1:=H
def l6{k:I}{au:0e0}{s fL:1e0}{o:K->2e1}{b9:6e1}{f:I->I}{apu:K->fj}(dh:∀dn,124 av 38 my ⟨i8 sh b k au,8e1,o dn⟩= 57 ⟨s,dJ (dn+1),[]⟩ b9)(h:13e1)(x:∀dn,gb 62 s fL 8e1 8e1 f)(e:LM fL apu):MC sh b k au (211 (dn+1)):=by
 intro dn o2;exact Wf (QP av sh b k au dn) (We (dh dn) h) (x (dn+1)) λo=>NO (e (dn+1) o2)
def Ww(sh:Sh)(b:MB)(k:K)(au:0e0):62<=(i8 sh b k au).U:=by
 cases sh with
 |a=>exact 11e7
 |b s E=>exact I.cy ar
def o9{apu:K->fj}(h:MC sh b (k+1) au apu):LM (i8 sh b ((k:K)+1) au) apu:=cast1 k▸h
def v9{b9:6e1}(dh:cF av sh 1e2 k (k+1) bw au 19e4 o=d9 O 19e4 b9)(s:13e1):xM av sh b k bw au O:=iY dh s Wv
def j1{p q:Prop}(s:p)(h:q):∀x∈ [p,q],x:=24 s h
def kV{p q r:Prop}(s:p)(h:q)(hr:r):∀x∈ [p,q,r],x:=ac s (j1 h hr)
def Wx{k:I}{bw:V}{au b6:0e0}{o:2e1}{b9:6e1}{apu:K->fj}(dh:cF av sh 1e2 k (k+1) bw au 19e4 o=d9 (bZ sh b' (k+1) b6) 19e4 b9)(x:13e1)(hr:m4 b k bw)(hm:iU b' k false)(h:MC sh b' (k+1) b6 apu):MC sh b k au (211 (dn+1)):=by
 have hd:=v9 dh x;clear dh;cases sh with
 |a=>exact l6 (λdn=>rU av .a b b' k dn bw au 55 fC [6e0] b6 []) (kV hr hd hm) (f:=λi=>i) (376 (Ww .a ..)) (o9 h)
 |b s E=>exact l6 (λdn=>rU av (.b s E) b b' k dn bw au 62 s [6e0] b'.g (.au b6::E)) (kV hr hd hm) (f:=λi=>i) (376 (Ww (.b s E) ..)) (o9 h)
def NP(h:j<62):gm (43e0++ex) n j=j:=by
 unfold gm;rw[D.kO (by simpa using h),D.uq h];rfl
def C3{f:I->I}(l:1e0):(l.aj λo=>G (eI (f9 f o)))=((l.aj (f9 f)).aj λo=>G (eI o)):=by rw[D.rB];rfl
def all{dn:K}{f:I->I}(s:∀j,j<62->f j=j):∀k v,19 8e1=2e5->∃v2,19 8e1=G v2/\dE v2=dE 15e3:=by
 intro k v e;show⟨v,e,?_⟩;have:=iW e;clear e;simp only[dJ,D.eR,kC.mk.fu,D.mn,mo]at a9;rcases a9 with⟨_,H⟩|⟨_,H⟩|⟨_,H⟩
 ·exact bB (λv=>dE (.Z v)) (s 51 ap).bh
 ·rfl
 ·rfl
def alm{fV ex:D I}(hs:fV=43e0++ex){O eV:1e0}{dn:K}(x:fV.dS)(h:(∀f:I->I,f=gm fV O.U->(∀j,j<62->f j=j)->fV.aj (λi=>(O[i]?).aj eI)=((eV.aj (f9 f)).aj λo=>G (eI o)))):gb 62 O eV 8e1 8e1 (gm fV O.U):=by
 subst hs;show gb.sD ?_ x (all λj s=>NP s) ?_
 ·rw[C3];exact h _ H λj s=>NP s
 ·rw[D.take_left' (by simp)]
def ni{ex:D I}(x:(43e0++ex).dS){F:0e0}{n:I}{dn:K}(s:l5 b)(fm:21 F F)(apB apC:MB->0e0->1e0)(e:(apC b F).U=n)
  (h:(43e0++ex).aj (λi=>((apC (b.o6 (gm (43e0++ex) n)) (bP (gm (43e0++ex) n) F))[i]?).aj eI)=(((apB b F).aj (f9 (gm (43e0++ex) n))).aj λo=>G (eI o))):
  gb 62 (apC b F) (apB b F) 8e1 8e1 (gm (43e0++ex) (apC b F).U):=alm H x λf a r=>by
 subst e;rw[fm,MB.Wu s λi=>s.m i _ λj=>NP]at h;exact a▸h
def aln(h3:15e0)(s:l5 b'){k:I}{bw:V}{au b6:0e0}{o:2e1}{b9:6e1}{apu:K->fj}(hs:21 b6 b6)(dh:cF av sh 1e2 k (k+1) bw au 19e4 o=d9 (ej sh b' (k+1) b6 g) 19e4 b9)(x:13e1)(hr:m4 b k bw)(hm:iU b' k false)(h:MC sh b' (k+1) b6 apu):MC sh b k au (211 (dn+1)):=by
 have hd:=v9 dh x;clear dh;rcases h3 with H|rfl|rfl
 ·exact l6 (λdn=>rU av .a b b' k dn bw au 55 fC [6e0] b6 [g]) (kV hr hd hm) (λdn=>ni (ex:=[]) ap s hs (λB S=>i8 .a B (k+1) S) (λB S=>27 55 fC [3e7] (k+1) [6e0] S B [g]) H ar) (o9 h)
 ·exact l6 (λdn=>rU av (.b fC []) b b' k dn bw au 62 fC [6e0] b'.g [.au b6,g]) (kV hr hd hm) (λdn=>ni (ex:=[62]) ap s hs (λB S=>i8 (.b fC []) B (k+1) S) (λB S=>27 62 fC [3e7] (k+1) [6e0] B.g B [.au S,g]) H ar) (o9 h)
 ·exact l6 (λdn=>rU av (.b hb jq) b b' k dn bw au 62 hb [6e0] b'.g [.au b6,6e4,6e4,g]) (kV hr hd hm) (λdn=>ni (ex:=[62,63,64]) ap s hs (λB S=>i8 (.b hb jq) B (k+1) S) (λB S=>27 62 hb [3e7] (k+1) [6e0] B.g B [.au S,6e4,6e4,g]) H ar) (o9 h)
def C4{o:K->2e1}{b9:6e1}{f:I->I}{apu:K->fj}(x:∀dn,apy av 9 38 (.t rT) ⟨O,8e1,[]⟩= 123 6e7 ⟨O,8e1,[]⟩)(dh:∀dn,124 av 38 my ⟨O,8e1,o dn⟩= 57 ⟨fD,dJ (dn+1),[]⟩ b9)(s:13e1)(h:∀dn,gb 62 fD fL 8e1 8e1 f)(e:LM fL apu):LM O (211 (dn+1)):=by
 intro dn o2;exact Wf (x dn) (We (dh dn) s) (h (dn+1)) λo=>NO (e (dn+1) o2)
def C5(s:∀dn,apy av 9 38 (.t rT) ⟨O,8e1,[]⟩= 123 1e9 ⟨O,8e1,[]⟩):LM O (λdn=> 52 O 8e1):=λdn o2=>aka (s dn) o2
def alo{n d i:I}{b:15e5}{O e:1e0}{T l gc:0e1}{o1 o2:2e1}{ob:6e1}(h:fT (115 av n d 12e5 O T o1)= .a7 i ⟨e,l,o2⟩ ob)(j:33e6):av d 12e5 O T (.a7 i e gc):=by
 have S:=hR d n 12e5 29e4;generalize apy av n d (.ss b) ⟨O,T,o1⟩=r at h S;cases r with
 |aS a F ob=>cases h
 |no w=>cases h
 |a7 g F app=>
  obtain⟨s9,t,z⟩:=F;cases h;exact λR o4 k sc B f x J s Q EE Y c hz v o P=>S k sc B f x J s Q EE Y c hz v (gP o) ⟨j,λaB s' u q m apv r=>P.2 aB s' u q (gP m) apv r⟩
def y6:Sh->Sh
 | .a=> .b fC []
 | .b s E=> .b s E
def fP(sh:Sh)(b:MB)(cN:0e0):MB:=match sh with
 | .a=>{b with g:=cN}
 | .b _ _=>b
def alp(h3:15e0)(s:l5 (fP sh b' cN)){k:I}{bw:V}{au b6:0e0}{o:2e1}{b9:6e1}{apu:K->fj}(hs:21 b6 b6)(dh:cF av sh 1e2 k (k+1) bw au 19e4 o=d9 (vm sh b' (k+1) cN b6 [3e7]) 19e4 b9)(x:13e1)(hr:m4 b k bw)(hm:iU b' k false)(h:MC (y6 sh) (fP sh b' cN) (k+1) b6 apu):MC sh b k au (211 (dn+1)):=by
 have hd:=v9 dh x;clear dh;rcases h3 with H|rfl|rfl
 ·exact l6 (λdn=>rU av .a b b' k dn bw au 62 fC [6e0] cN [.au b6,2e0]) (kV hr hd hm) (λdn=>ni (ex:=[62]) ap s hs (λB S=>i8 (.b fC []) B (k+1) S) (λB S=>27 62 fC [3e7] (k+1) [6e0] B.g B [.au S,2e0]) H ar) (o9 h)
 ·exact l6 (λdn=>rU av (.b fC []) b b' k dn bw au 63 fC [6e0] b'.g [32e2,.au b6,2e0]) (kV hr hd hm) (λdn=>ni (ex:=[63]) ap s hs (λB S=>i8 (.b fC []) B (k+1) S) (λB S=>27 63 fC [3e7] (k+1) [6e0] B.g B [32e2,.au S,2e0]) H ar) (o9 h)
 ·exact l6 (λdn=>rU av (.b hb jq) b b' k dn bw au 65 hb [6e0] b'.g [32e2,6e4,6e4,.au b6,2e0]) (kV hr hd hm) (λdn=>ni (ex:=[65,63,64]) ap s hs (λB S=>i8 (.b hb jq) B (k+1) S) (λB S=>27 65 hb [3e7] (k+1) [6e0] B.g B [32e2,6e4,6e4,.au S,2e0]) H ar) (o9 h)
def Wy(h3:15e0){k:I}{bw:V}{au b6:0e0}{C:aH}{dd:0e1}{i:I}{o:2e1}{b9:6e1}(dh:fT (cF av sh 1e2 k (k+1) bw au 19e4 o)=gw i (138 b' (k+1) b6 C dd) b9)(s:i=(275 (k+1) []).U)(x:13e1)(hr:m4 b k bw):MC sh b k au (λa=> 205 i b' (k+1) b6 C dd []):=by
 have hd:QO av sh b k bw au i (138 b' (k+1) b6 C dd):=NF dh x Wv;intro dn o2;have h:=alo (gc:=[]) (add av sh b k dn bw au i _) (j1 hr hd);have e:62<=(138 b' (k+1) b6 C dd).U:=56e7;show aj9 (QP av sh b k au dn) h (f:=λi=>i) (.id e) H ?_ ?_ o2
 ·rw[s];exact 56e7
 ·rw[s];clear s e h hd x dh;rcases h3 with H|rfl|rfl<;>exact⟨C,dd,H⟩
def alq{k:I}{bw:V}{au b6:0e0}{o:2e1}{b9:6e1}(dh:cF av sh 1e2 k (k+1) bw au 19e4 o=d9 (Kq sh b' (k+1) b6) 19e4 b9)(x:13e1)(hr:m4 b k bw)(hm:iU b' k true):
  ∃S s h aC,(match(generalizing:=false) sh with| .a=>S=55/\s=fC/\h=b6/\aC=[]| .b k2 E=>S=62/\s=k2/\h=b'.g/\aC= .au b6::E)/\MC sh b k au (λdn=> 52 (27 S s [] (k+1) [] h b' aC) (dJ (dn+1))):=by
 have hd:=v9 dh x;clear dh;have cQ:∀S s h aC,Kq sh b' (k+1) b6=dD S s [3e7] (k+1) [] h true b' aC->MC sh b k au (λdn=> 52 (27 S s [] (k+1) [] h b' aC) (dJ (dn+1))):=by
  intro S s h aC e;rw[e]at hd;show l6 (λdn=>adc av sh b b' k dn bw au S s [] h aC) (kV hr hd hm) (f:=λi=>i) (376 (I.cy ar)) (apu:=λdn=> 52 (27 S s [] (k+1) [] h b' aC) 8e1) (C5 λdn=>Bd av S s (k+1) [] h false b' aC dn)
 clear hd;cases sh with
 |a=>exact⟨_,_,_,_,⟨H,H,H,H⟩,cQ _ _ _ _ H⟩
 |b s E=>exact⟨_,_,_,_,⟨H,H,H,H⟩,cQ _ _ _ _ H⟩
def alr(h3:15e0)(h:l5 (fP sh b' cN)){k:I}{bw:V}{au:0e0}{o:2e1}{b9:6e1}(dh:cF av sh 1e2 k (k+1) bw au 19e4 o=d9 (xJ sh b' (k+1) cN) 19e4 b9)(e:13e1)(hr:m4 b k bw):
  ∃x aC,(x=fC/\aC=[]\/x=hb/\aC=jq)/\MC sh b k au (λdn=> 52 (27 62 x [] (k+1) [6e0] (fP sh b' cN).g (fP sh b' cN) (20e1::aC)) (dJ (dn+1))):=by
 have hd:=v9 dh e;clear dh;rcases h3 with H|rfl|rfl
 ·exact⟨fC,[],.a2 15e2,l6 (λdn=>Kt av .a b b' k dn bw au 63 fC [6e0] cN [44e0,20e1,2e0]) (j1 hr hd) (λdn=>ni (F:=[]) (ex:=[63]) ap h 45e1 (λB s=>27 62 fC [] (k+1) [6e0] B.g B [20e1]) (λB s=>27 63 fC [] (k+1) [6e0] B.g B [44e0,20e1,2e0]) H ar) (apu:=λdn=> 52 (27 62 fC [] (k+1) [6e0] (fP .a b' cN).g (fP .a b' cN) [20e1]) 8e1) (C5 λdn=>Bd av _ _ _ _ _ _ _ _ dn)⟩
 ·exact⟨fC,[],.a2 15e2,l6 (λdn=>Kt av (.b fC []) b b' k dn bw au 64 fC [6e0] b'.g [32e2,44e0,20e1,2e0]) (j1 hr hd) (λdn=>ni (F:=[]) (ex:=[64]) ap h 45e1 (λB s=>27 62 fC [] (k+1) [6e0] B.g B [20e1]) (λB s=>27 64 fC [] (k+1) [6e0] B.g B [32e2,44e0,20e1,2e0]) H ar) (apu:=λdn=> 52 (27 62 fC [] (k+1) [6e0] b'.g b' [20e1]) 8e1) (C5 λdn=>Bd av _ _ _ _ _ _ _ _ dn)⟩
 ·exact⟨hb,jq,.aD 15e2,l6 (λdn=>Kt av (.b hb jq) b b' k dn bw au 66 hb [6e0] b'.g [32e2,6e4,6e4,44e0,20e1,2e0]) (j1 hr hd) (λdn=>ni (F:=[]) (ex:=[66,63,64]) ap h 45e1 (λB s=>27 62 hb [] (k+1) [6e0] B.g B [20e1,6e4,6e4]) (λB s=>27 66 hb [] (k+1) [6e0] B.g B [32e2,6e4,6e4,44e0,20e1,2e0]) H ar) (apu:=λdn=> 52 (27 62 hb [] (k+1) [6e0] b'.g b' [20e1,6e4,6e4]) 8e1) (C5 λdn=>Bd av _ _ _ _ _ _ _ _ dn)⟩
def NQ(s:l5 b){apu:K->fj}(hm:iU b k false)(e:LM (i8 (.b hb jq) {b with gv:=b.gv+4} ((k:K)+1) [2 (325 fb b.e9)]) apu):LM (mC 0 b ((k:K)+1) [] fa fb) (211 (dn+4)):=by
 rw[show({b with gv:=b.gv+4}:MB)=aF (aF (aF 1e2))from bB (λn=>{b with gv:=n}) (by lia:b.gv+4=b.gv+1+1+1+1)]at e;rw[show(211 (dn+4))=λdn=>apu (dn+1+1+1+1)from y5 λdn=>bB apu bM];have h:∀(jE:K) (b:MB) (au:0e0),62<=(mC jE b ((k:K)+1) au fa fb).U:=λa a a=>I.cy ar;have ei:∀{p:Prop},p->∀x∈ [p],x:=λr=>39 r;show C4 (apu:=λdn=>apu (dn+1+1+1)) (λdn=>Bc av 0 b _ [] fa fb dn) (λdn=>ade av b _ dn fa fb) (ei ap) (f:=λi=>i) (376 (h 1 _ _)) ?_;show C4 (apu:=λdn=>apu (dn+1+1)) (λdn=>Bc av 1 1e2 _ _ fa fb dn) (λdn=>adf av 1e2 _ dn fa fb) (ei ap) (f:=λi=>i) (376 (h 2 _ _)) ?_;show C4 (apu:=λdn=>apu (dn+1)) (λdn=>Bc av 2 (aF 1e2) _ _ fa fb dn) (λdn=>adg av (aF 1e2) _ dn fa fb) (j1 (Wj (d:=32)) ap) (f:=λi=>i) (376 (h 3 _ _)) ?_;exact C4 (λdn=>Bc av 3 _ _ _ fa fb dn) (λdn=>adh av (aF (aF 1e2)) k dn _ fa fb) (ei hm) (λdn=>ni (b:=aF (aF (aF 1e2))) (F:=[2 (325 fb b.e9)]) (ex:=[62,63,64]) ap ⟨s.m,s.B,s.T0,s.T1,s.T2,s.no,s.g,s.c2,s.e0,s.e1,s.d0,s.d1⟩ 45e1 (λB S=>i8 (.b hb jq) B ((k:K)+1) S) (λB S=>27 62 hb [3e7] ((k:K)+1) [6e0] B.g B [.au S,6e4,6e4,vl 63 64 67 4 fa fb,vn,2e0]) H ar) e
def ix(g:I)(b:MB)(oc:0e0)(en:V)(au apt:0e0):1e0:=match g with
 |1=>c9 b apt en au
 |2=>149 {b with T0:=apt} au
 |3=>149 {b with T1:=apt} au
 |_=>149 {b with T2:=apt} au
def G4(g:I):Prop:=g=1\/g=2\/g=3\/g=4
def nj(g:I)(a n s:K)(S w:V):0e1:=[(88,.Z g),(42,0e2),(137,S),(49,0e8),(9,0e3),(58,w)]
def C6:15e5:=match Qj.cW with
 | [_,.mr _ _ b,_]=>b
 |_=>[]
def Wz:Tk->al:=λtk=>match tk with
 | .gj _ _ _ _=>true
 |_=>false
def als(P:PP)(d:I)(g:I)(h:G4 g)(b:MB)(oc:0e0)(en:V)(au apt:0e0)(a n s:K)(S w v:V)(k:I):apy P 20 d (.ss C6) ⟨ix g b oc en au apt,nj g a n s S w++[(99,0 k),(60,v)],[]⟩= 57 ⟨ix g b oc en au (apt.cM (a+k).aI v),nj g a n s S w++[(99,0 k),(60,v)],[]⟩ [bJ (0<=a+k/\a+k<apt.U)=true]:=by rcases h with H|rfl|rfl|rfl<;>kernel_rfl
def mv:0e0->I->0e0->0e0
 |apt,_,[]=>apt
 |apt,i,v::r=>mv (apt.cM i v) (i+1) r
def WA(r:0e0):∀(apt:0e0) (i:I),i+r.U<=apt.U->mv apt i r=apt.fG i++r++apt.fh (i+r.U):=by
 induction r with
 |aQ=>
  intro apt i h;refine apt=apt.fG i++[]++apt.fh i;rw[D.dY,D.Jx]
 |aP v r x=>
  intro apt i h;have s:i<apt.U:=I.mF (I.aiO (I.succ_pos _)) h;refine mv (apt.cM i v) (i+1) r=apt.fG i++v::r++apt.fh (i+(r.U+1));have e1:(apt.cM i v).fG (i+1)=apt.fG i++[v]:=by
   rw[D.take_set,D.take_succ_eq_append_getElem s];rw[D.afv _ _ (by rw[D.qP];exact I.KZ i apt.U),D.qP,I.NR (I.jx s),I.jj];rfl
  have e2:(apt.cM i v).fh (i+1+r.U)=apt.fh (i+1+r.U):=by
   rw[D.drop_set,eX bM]
  rw[x _ _ (by rw[D.vK,I.TQ];exact h),e1,e2,D.eO (apt.fG i),I.TQ];rfl
def wa{α:Type}{m:34e9}{k:I}{v:α}{l:34e9}:19 l=2e5->19 (l++m)=2e5:=by
 induction l with
 |aQ=>exact nS
 |aP p l s=>
  intro h;rw[D.NS];rw[nP]at h⊢;cases e:I.bX p.1 k with
  |true=>rw[e]at h;exact h
  |false=>rw[e]at h;exact s h
def WB{d g:I}(q:G4 g){b:MB}{oc:0e0}{en:V}{au:0e0}{a n s:K}{S w:V}(SL:0e0)(u:0<=a):∀(r:0e0) (k:I) (apt:0e0),SL.fh k=r->a+SL.U<=apt.U->
  av d (.gj (.t [99,60]) (.gL (.fA SL)) k C6) (ix g b oc en au apt) (nj g a n s S w) (52 (ix g b oc en au (mv apt (a.aI+k) r)) (nj g a n s S w)):=by
 intro r;induction r with
 |aQ=>
  intro k apt e p;show NE λF=>?_;refine G (SL[k]?.aj λv=>V.X [0 k,v])=G L;have:SL[k]? =L:=by
   have:=bB D.U e;simp at a9;exact D.q4 (by exact D.drop_eq_nil_iff.mp e)
  rw[a9];rfl
 |aP v r ih=>
  intro k apt e p;have x:SL[k]? =2e5:=by
   have:=bB (·[0]?) e;simpa using a9
  have c:=(116 x);have e2:SL.fh (k+1)=r:=by
   have:=bB D.mj e;simpa [D.tail_drop]using a9
  show yY (v:= .X [0 k,v]) (o8:=nj g a n s S w++[(99,0 k),(60,v)]) (n6:=ix g b oc en au (apt.cM (a.aI+k) v)) (n7:=nj g a n s S w) (λF=>?_) (λo=>cH) ?_ ?_
  ·refine G (SL[k]?.aj λv=>V.X [0 k,v])=_;rw[x];rfl
  ·have h:=v8 (a3:= 24e4) (f:=λi=>i) (fL:=ix g b oc en au (apt.cM (a+k).aI v)) (gc:=nj g a n s S w) (als av d g q b oc en au apt a n s S w v k) (39 (eE bM)) ?_
   ·have e3:(a+k).aI=a.aI+k:=by exact K.alt u k
    rw[e3]at h;exact h
   ·show⟨⟨λi o e=>⟨o,e,by rw[ur]⟩,λi h=>h,λi j m m h=>h,λl v2 e=>⟨v2,?_,by rw[n5]⟩⟩,λi m=>rfl,?_⟩
    ·exact wa e
    ·rcases q with H|rfl|rfl|rfl<;>exact I.eC _
  ·have:=ih (k+1) (apt.cM (a.aI+k) v) e2 (by rw[D.vK];exact p);exact a9
def alu(P:PP)(d g:I)(e:G4 g)(b:MB)(oc:0e0)(en:V)(au apt h:0e0)(a n s:K)(S:0e0)(w:V)(T:0e1):apy P 40 (d+1) (216 [.Z g,0e2,4e5,0e8,0e3,w]) ⟨ix g b oc en au apt,T,[1e9,1e9,.ec Wz λx x x=> 52 (ix g b oc en au h) (nj g a n s 4e5 w)]⟩=
  .aS (.v 0e6) ⟨ix g b oc en au h,T,[]⟩ [bJ ((S.U:K)<s+n)=false,bJ (40e4<a+n)=false,(50 S s (s+n)).U<=16777216,P d (.gj (.t [99,60]) (.gL (.fA (50 S s (s+n)))) 0 C6) (ix g b oc en au apt) (nj g a n s 4e5 w) (52 (ix g b oc en au h) (nj g a n s 4e5 w))]:=by rcases e with H|rfl|rfl|rfl<;>kernel_rfl
def alv(P:PP)(d:I)(b:MB)(oc:0e0)(en:V)(au apt h:0e0)(a n s:K)(w:V)(T:0e1):apy P 40 (d+1) (216 [10e1,0e2,10e1,0e8,0e3,w]) ⟨ix 1 b oc en au apt,T,[1e9,1e9,.ec Wz λx x x=> 52 (ix 1 b oc en au h) (nj 1 a n s 10e1 w)]⟩=
  .aS (.v 0e6) ⟨ix 1 b oc en au h,T,[]⟩ [bJ (40e4<s+n)=false,bJ (40e4<a+n)=false,(50 apt s (s+n)).U<=16777216,P d (.gj (.t [99,60]) (.gL (.fA (50 apt s (s+n)))) 0 C6) (ix 1 b oc en au apt) (nj 1 a n s 10e1 w) (52 (ix 1 b oc en au h) (nj 1 a n s 10e1 w))]:=ar
def alw(P:PP)(d g:I)(h:G4 g)(b:MB)(oc:0e0)(en:V)(au apt:0e0)(a n s:K)(S:0e0)(w:V)(T:0e1)(q:al):apy P 40 (d+1) (216 [.Z g,0e2,4e5,0e8,0e3,w]) ⟨ix g b oc en au apt,T,match q with|true=>[6e7]|false=>[1e9,6e7]⟩=
  .aS (.v w) ⟨ix g b oc en au apt,T,[]⟩ (match q with|true=>[bJ ((S.U:K)<s+n)=true]|false=>[bJ ((S.U:K)<s+n)=false,bJ (40e4<a+n)=true]):=by cases q<;>rcases h with H|rfl|rfl|rfl<;>kernel_rfl
def alx(P:PP)(d:I)(b:MB)(oc:0e0)(en:V)(au apt:0e0)(a n s:K)(w:V)(T:0e1)(q:al):apy P 40 (d+1) (216 [10e1,0e2,10e1,0e8,0e3,w]) ⟨ix 1 b oc en au apt,T,match q with|true=>[6e7]|false=>[1e9,6e7]⟩=
  .aS (.v w) ⟨ix 1 b oc en au apt,T,[]⟩ (match q with|true=>[bJ (40e4<s+n)=true]|false=>[bJ (40e4<s+n)=false,bJ (40e4<a+n)=true]):=by cases q<;>kernel_rfl
def NT{i:K}{n:I}(h0:0<=i)(h:i<=n):xq i n=i.aI:=by
 unfold xq kL;rw[d5 (K.du.bl h0),K.NR h,K.Lr h0]
def WC{i:K}{n:I}{k:K}(h0:0<=i)(s:0<=k)(h:i+k<=n):vc (G i) n=i.aI:=NT h0 (K.dV (K.le_add_of_nonneg_right s) h)
def WD{i:K}{n:I}{k:K}(h0:0<=i)(s:0<=k)(h:i+k<=n):xr (G (i+k)) n=i.aI+k.aI:=(NT (K.Wn h0 s) h).aU (K.WE h0 s)
def NU{i:K}{n:I}{k:K}(h0:0<=i)(s:0<=k)(h:i+k<=n):i.aI+k.aI<=n:=by
 rw[<-K.WE h0 s];exact K.qw.bl h
def mO{α:Type}(S:8e4){s n:K}(hs:0<=s)(x:0<=n)(h:s+n<=S.U):50 S s (s+n)=(S.fh s.aI).fG n.aI/\(50 S s (s+n)).U=n.aI:=by
 have e:50 S s (s+n)=(S.fh s.aI).fG n.aI:=by
  unfold bD;rw[WC hs x h,WD hs x h,I.add_sub_cancel_left]
 show⟨e,?_⟩;rw[e,D.qP,D.sf];exact I.NR (I.le_sub_of_add_le' (NU hs x h))
def NV{α:Type}(apt m:8e4){a n:K}(x:0<=a)(s:0<=n)(h:a+n<=apt.U)(hm:m.U=n.aI):204 apt m=apt.fG a.aI++m++apt.fh (a.aI+m.U):=by
 unfold bV;rw[WC x s h,WD x s h,I.Lr (I.tR ..),hm]
def WF{a n:K}{l r:I}(x:0<=a)(h:a+n<=l)(s:0<=n)(hr:r=n.aI):a.aI+r<=l:=by
 rw[hr,<-K.WE x s];exact K.qw.bl h
def WG{apt S:0e0}{a n s:K}(e:0<=a)(hs:0<=s)(h:0<=n)(b:s+n<=S.U)(h2:a+n<=apt.U):mv apt a.aI (50 S s (s+n))=234 apt S:=by
 have x:=(mO S hs h b).2;rw[WA _ _ _ (WF e h2 h x),NV apt _ e h h2 x]
def C7{F:MS}:kT F (5 1420):=17e5
def C8{d g:I}(m:G4 g){b:MB}{oc:0e0}{en:V}{au apt S:0e0}{a n s:K}{t t2:al}{w:V}{T:0e1}(e:0<=a)(hs:0<=s)(x:0<=n)(h:s+n<=S.U)(h2:a+n<=apt.U)(v:106 n):
  121 (d+1) (216 [.Z g,0e2,.ad S t,.y s t2,0e3,w]) (ix g b oc en au apt) T 0e6 (ix g b oc en au (234 apt S)) T:=by
 have p:=(mO S hs x h).2;show ut (as:=[.Z g,0e2,4e5,0e8,0e3,w]) (λk k k r=>v6 cH r) (iY (alu av d g m b oc en au apt _ a n s S w T) (28 (125 h) (125 h2) ?_ ?_) C7)
 ·rw[p];exact K.qw.bl v
 ·rw[<-WG e hs x h h2];have:=WB (d:=d) m (b:=b) (oc:=oc) (en:=en) (au:=au) (a:=a) (n:=n) (s:=s) (S:= 4e5) (w:=w) (50 S s (s+n)) e _ 0 apt H 54e2;exact a9
def aly{d:I}{b:MB}{oc:0e0}{en:V}{au apt:0e0}{a n s:K}{w:V}{T:0e1}(e:0<=a)(hs:0<=s)(x:0<=n)(h:s+n<=apt.U)(h2:a+n<=apt.U)(p:106 n):
  121 (d+1) (216 [10e1,0e2,10e1,0e8,0e3,w]) (c9 b apt en au) T 0e6 (c9 b (234 apt apt) en au) T:=by
 have r:=(mO apt hs x h).2;show iY (alv av d b oc en au apt _ a n s w T) (28 (125 h) (125 h2) ?_ ?_) C7
 ·rw[r];exact K.qw.bl p
 ·rw[<-WG e hs x h h2];exact WB (d:=d) 2e6 (b:=b) (oc:=oc) (en:=en) (au:=au) (a:=a) (n:=n) (s:=s) (S:= 10e1) (w:=w) (50 apt s (s+n)) e _ 0 apt H (by rw[r];lia)
def wb{d g:I}(k:G4 g){b:MB}{oc:0e0}{en:V}{au apt S:0e0}{a n s:K}{t t2:al}{w:V}{T:0e1}(h:¬(s+n<=S.U/\a+n<=apt.U)):
  121 (d+1) (216 [.Z g,0e2,.ad S t,.y s t2,0e3,w]) (ix g b oc en au apt) T w (ix g b oc en au apt) T:=by
 show ut (as:=[.Z g,0e2,4e5,0e8,0e3,w]) (λe e e r=>v6 cH r) (iY (alw av d g k b oc en au apt a n s S w T (decide ((S.U:K)<s+n))) (λp x=>?_) C7)
 ·by_cases q:(S.U:K)<s+n
  ·rw[eE q]at x;exact ac H a4 p x
  ·rw[fX q]at x;exact ac H (39 (eE bM)) p x
def WH{d:I}{b:MB}{oc:0e0}{en:V}{au apt:0e0}{a n s:K}{w:V}{T:0e1}(h:¬(s+n<=apt.U/\a+n<=apt.U)):
  121 (d+1) (216 [10e1,0e2,10e1,0e8,0e3,w]) (c9 b apt en au) T w (c9 b apt en au) T:=by
 show iY (alx av d b oc en au apt a n s w T (decide (40e4<s+n))) (λp x=>?_) C7;by_cases q:40e4<s+n
 ·rw[eE q]at x;exact ac H a4 p x
 ·rw[fX q]at x;exact ac H (39 (eE bM)) p x
universe e
section
open PySem PySem.W
set_option backward.match.sparseCases false
def WI(P:PP)(b:MB)(T:0e1)(n:K)(aC:0e0):177 [5e8,0e3] aC=46 b (2 (n.ah 4294967296)::aC) [9 n 4294967296=true,aC.U+1<=16777216]:=ar
def alz(P:PP)(b:MB)(T:0e1)(n:K)(aC:0e0):177 [21e5,0e3] aC=46 b (2 (n.ah 18446744073709551616)::aC) [361 n=true,aC.U+1<=16777216]:=ar
def alA(P:PP)(b:MB)(T:0e1)(n:K)(aC:0e0):177 [0 208,0e3] aC=46 b (0e6::aC) 25e2:=ar
def alB(P:PP)(b:MB)(T:0e1)(n v:K)(aC:0e0):55 [0 210,0e3] aC [.v (0 v)]=46 b (0 v::aC) [(dm [1e3,1e8,0e7,10e8,3e8,3e4] n)=G (0 v),aC.U+1<=16777216]:=ar
def alC(P:PP)(b:MB)(T:0e1)(aC:0e0):177 [29e0,0e7] aC=46 b (0 9::aC) 25e2:=ar
def alD(P:PP)(b:MB)(T:0e1)(aC:0e0):177 [43e1] (0e6::aC)=46 b (1e3::aC) 25e2:=ar
def alE(P:PP)(b:MB)(T:0e1)(v:K)(aC:0e0):177 [43e1] (0 v::aC)=46 b (0e7::aC) 25e2:=ar
def alF(P:PP)(b:MB)(T:0e1)(aC:0e0):177 [16e3,0e7] aC=46 b (31e5::aC) 25e2:=ar
def alG(P:PP)(b:MB)(T:0e1)(aC:0e0):177 [16e3,1e3] aC=46 b (31e4::aC) 25e2:=ar
def alH(P:PP)(b:MB)(T:0e1)(aC:0e0):177 [16e3,1e8] aC=46 b (b.c2::aC) 25e2:=ar
def alI(P:PP)(b:MB)(T:0e1)(v:K)(aC:0e0):177 [21e4,0e7] (2 v::aC)=46 {b with c0:=v} aC []:=ar
def alJ(P:PP)(b:MB)(T:0e1)(v:K)(aC:0e0):177 [21e4,1e3] (2 v::aC)=46 {b with c1:=v} aC []:=ar
def alK(P:PP)(b:MB)(T:0e1)(v:V)(aC:0e0):177 [21e4,1e8] (v::aC)=46 {b with c2:=v} aC []:=ar
def alL(P:PP)(b:MB)(T:0e1):55 [0 63] [] [1e9]=201 b (4e2++[]) [2 ((41e5).aK 16)] T [15 41e5 16=true,bJ ((2:K)<(((41e5).aK 16)+0))=false,((4e2++[])).U<=16777216,1<=16777216]:=ar
def alM(P:PP)(b:MB)(T:0e1)(n:K):55 [17e2] [0e3] [6e7]=46 b [44e6] [15 41e5 16=true,bJ ((2:K)<(((41e5).aK 16)+n))=true,1<=16777216]:=ar
def alN(P:PP)(b:MB)(T:0e1)(n:K):55 [17e2] [0e3] [1e9]=201 b (4e2++(412 (n*16))) [2 ((41e5).aK 16)] T [15 41e5 16=true,bJ ((2:K)<(((41e5).aK 16)+n))=false,a8 .f4 n 16=true,jM (n*16)=true,((412 (n*16))).U<=16777216,((4e2++(412 (n*16)))).U<=16777216,1<=16777216]:=ar
def alO(P:PP)(b:MB)(T:0e1)(n s a:K):55 [16e1] [0e3,0e8,0e2] [268 2e7 b]=150 2e7 b [] T [9 s 256=true,jM n=true,(47e8).U<=16777216,P 37 (216 [10e1,0e2,49e7,0e7,0e3,2e7]) 35e8 [(98,6e3),(131,.X [16e1]),(132,10e6),(6,16e1),(113,8 [13e4,13e5,13e6]),(9,0e3),(139,0e8),(42,0e2),(137,49e7),(49,0e7)] (36 2e7 35e8 [(98,6e3),(131,.X [16e1]),(132,10e6),(6,16e1),(113,8 [13e4,13e5,13e6]),(9,0e3),(139,0e8),(42,0e2),(137,49e7),(49,0e7)])]:=ar
def alP(P:PP)(b:MB)(T:0e1)(n s a:K):55 [16e1] [0e3,0e8,0e2] [407 (87 b (bV 4e2 (G a) (G (a+n)) (50 47e8 0 ((0:K)+n))) [])]=201 b (bV 4e2 (G a) (G (a+n)) (50 47e8 0 ((0:K)+n))) [] T [9 s 256=true,jM n=true,(47e8).U<=16777216,P 37 (216 [10e1,0e2,49e7,0e7,0e3,2e7]) 35e8 [(98,6e3),(131,.X [16e1]),(132,10e6),(6,16e1),(113,8 [13e4,13e5,13e6]),(9,0e3),(139,0e8),(42,0e2),(137,49e7),(49,0e7)] (36 0e6 (87 b (bV 4e2 (G a) (G (a+n)) (50 47e8 0 ((0:K)+n))) []) [(98,6e3),(131,.X [16e1]),(132,10e6),(6,16e1),(113,8 [13e4,13e5,13e6]),(9,0e3),(139,0e8),(42,0e2),(137,49e7),(49,0e7)])]:=ar
def WJ(P:PP)(b:MB)(T:0e1)(n s a:K):55 [20e9] [0e3,0e8,0e2] [268 2e7 b]=150 2e7 b [] T [P 37 (216 [10e1,0e2,10e1,0e8,0e3,2e7]) 35e8 [(98,6e3),(131,.X [20e9]),(132,10e6),(6,20e9),(113,8 [13e4,13e5,13e6]),(9,0e3),(139,0e8),(42,0e2),(137,10e1),(49,0e8)] (36 2e7 35e8 [(98,6e3),(131,.X [20e9]),(132,10e6),(6,20e9),(113,8 [13e4,13e5,13e6]),(9,0e3),(139,0e8),(42,0e2),(137,10e1),(49,0e8)])]:=ar
def alQ(P:PP)(b:MB)(T:0e1)(n s a:K):55 [20e9] [0e3,0e8,0e2] [407 (87 b (246 4e2) [])]=201 b (246 4e2) [] T [P 37 (216 [10e1,0e2,10e1,0e8,0e3,2e7]) 35e8 [(98,6e3),(131,.X [20e9]),(132,10e6),(6,20e9),(113,8 [13e4,13e5,13e6]),(9,0e3),(139,0e8),(42,0e2),(137,10e1),(49,0e8)] (36 0e6 (87 b (246 4e2) []) [(98,6e3),(131,.X [20e9]),(132,10e6),(6,20e9),(113,8 [13e4,13e5,13e6]),(9,0e3),(139,0e8),(42,0e2),(137,10e1),(49,0e8)])]:=ar
def WK(P:PP)(b:MB)(T:0e1)(i:K)(h:16e0)(n s a:K)(dt:4e9):263 P 23e2 [8e6,6e5] [0e3,0e8,0e2] [6e7,268 2e7 23e2]=150 2e7 23e2 [] T [(!(dt).jL)=true,mA P (117 23e2) (117 23e2) 2e7 [10e1,0e2,6 45e8,0e8,0e3,2e7] [(98,6e3),(131,.X [8e6,6e5]),(132,10e6),(6,8e6),(113,8 [13e4,13e5,13e6]),(9,0e3),(139,0e8),(42,0e2),(137,6 45e8),(49,0e8)]]:=by replace h:=mz h;revert i h;show 3e1;kernel_rfl
def alR(P:PP)(b:MB)(T:0e1)(i:K)(h:16e0)(n s a:K)(dt:4e9):263 P 23e2 [8e6,6e5] [0e3,0e8,0e2] [6e7,407 (87 23e2 (246 45e8) [])]=201 23e2 (246 45e8) [] T [(!(dt).jL)=true,mA P (117 23e2) (87 23e2 (246 45e8) []) 0e6 [10e1,0e2,6 45e8,0e8,0e3,2e7] [(98,6e3),(131,.X [8e6,6e5]),(132,10e6),(6,8e6),(113,8 [13e4,13e5,13e6]),(9,0e3),(139,0e8),(42,0e2),(137,6 45e8),(49,0e8)]]:=by replace h:=mz h;revert i h;show 3e1;kernel_rfl
def WL(P:PP)(b:MB)(T:0e1)(i:K)(h:16e0)(n s a:K):263 P 19e8 [8e6,6e5] [0e3,0e8,0e2] [268 2e7 19e8]=150 2e7 19e8 [] T [mA P (117 19e8) (117 19e8) 2e7 [10e1,0e2,40e8,0e8,0e3,2e7] [(98,6e3),(131,.X [8e6,6e5]),(132,10e6),(6,8e6),(113,8 [13e4,13e5,13e6]),(9,0e3),(139,0e8),(42,0e2),(137,40e8),(49,0e8)]]:=by replace h:=mz h;revert i h;show 3e1;kernel_rfl
def alS(P:PP)(b:MB)(T:0e1)(i:K)(h:16e0)(n s a:K):263 P 19e8 [8e6,6e5] [0e3,0e8,0e2] [407 (87 19e8 (246 27e2) [])]=201 19e8 (246 27e2) [] T [mA P (117 19e8) (87 19e8 (246 27e2) []) 0e6 [10e1,0e2,40e8,0e8,0e3,2e7] [(98,6e3),(131,.X [8e6,6e5]),(132,10e6),(6,8e6),(113,8 [13e4,13e5,13e6]),(9,0e3),(139,0e8),(42,0e2),(137,40e8),(49,0e8)]]:=by replace h:=mz h;revert i h;show 3e1;kernel_rfl
def alT(P:PP)(b:MB)(T:0e1)(i:K)(s:16e0):177 [48e7,6e5] []=46 19e8 [] []:=by replace s:=mz s;revert i s;show 3e1;kernel_rfl
def alU(P:PP)(b:MB)(T:0e1)(t:K)(s:7e3)(a:K)(v:V):55 [38e2,1e1] [0e2] [6e7]=150 3e9 b [] T [bJ (5e2<=a)=true]:=by replace s:=20e7;revert t s;show 3e1;kernel_rfl
def alV(P:PP)(b:MB)(T:0e1)(t:K)(s:7e3)(a:K)(v:V):55 [38e2,1e1] [0e2] [1e9,.v v]=46 b [v] [bJ (5e2<=a)=false,16e4=2e5,1<=16777216]:=by replace s:=20e7;revert t s;show 3e1;kernel_rfl
def alW(P:PP)(b:MB)(T:0e1)(t:K)(s:7e3)(a:K)(v:V):55 [0 38,1e1] [v,0e2] [6e7]=150 3e9 b [] T [bJ (5e2<=a)=true]:=by replace s:=20e7;revert t s;show 3e1;kernel_rfl
def alX(P:PP)(b:MB)(T:0e1)(t:K)(s:7e3)(a:K)(v:V):55 [0 38,1e1] [v,0e2] [1e9]=46 (226 (D.cM 10e3 (a).aI v)) [] [bJ (5e2<=a)=false,bJ (0<=a/\a<5e2)=true]:=by replace s:=20e7;revert t s;show 3e1;kernel_rfl
def alY(P:PP)(b:MB)(T:0e1)(t:K)(s:7e3):177 [48e8,1e1] []=46 b [21e0] (288 1):=by replace s:=20e7;revert t s;show 3e1;kernel_rfl
def alZ(P:PP)(b:MB)(T:0e1)(t:K)(s:7e3)(n:K)(v:V):55 [39e3,1e1] [0e3,v] [6e7]=46 b [44e6] [15 5e2 1=true,bJ (lm t<(((5e2).aK 1)+n))=true,1<=16777216]:=by replace s:=20e7;revert t s;show 3e1;kernel_rfl
def al0(P:PP)(b:MB)(T:0e1)(t:K)(s:7e3)(n:K)(v:V):55 [39e3,1e1] [0e3,v] [1e9]=46 (226 (10e3++(403 (n*1)))) [2 ((5e2).aK 1)] [15 5e2 1=true,bJ (lm t<(((5e2).aK 1)+n))=false,a8 .f4 n 1=true,jM (n*1)=true,((403 (n*1))).U<=16777216,((10e3++(403 (n*1)))).U<=16777216,1<=16777216]:=by replace s:=20e7;revert t s;show 3e1;kernel_rfl
def al1(P:PP)(b:MB)(T:0e1)(t:K)(s:7e3)(n a:K)(v:V):55 [33e9,1e1] [0e3,v,0e2] [6e7]=150 3e9 b [] T [bJ (5e2<(a+n))=true]:=by replace s:=20e7;revert t s;show 3e1;kernel_rfl
def al2(P:PP)(b:MB)(T:0e1)(t:K)(s:7e3)(n a:K)(v:V):55 [33e9,1e1] [0e3,v,0e2] [1e9,268 0e6 (226 (bV 10e3 (G a) (G (a+n)) (50 35e9 0 ((0:K)+n))))]=46 (226 (bV 10e3 (G a) (G (a+n)) (50 35e9 0 ((0:K)+n)))) [] [bJ (5e2<(a+n))=false,jM n=true,(35e9).U<=16777216,mA P 35e8 (117 (226 (bV 10e3 (G a) (G (a+n)) (50 35e9 0 ((0:K)+n))))) 0e6 [.Z (t.aI+2),0e2,6 35e9,0e7,0e3,.ag Qg] [(98,6e3),(131,.X [33e9,1e1]),(132,10e6),(6,33e9),(113,8 [13e4,13e5,13e6]),(9,0e3),(139,v),(42,0e2),(88,.Z (t.aI+2))]]:=by replace s:=20e7;revert t s;show 3e1;kernel_rfl
def WM(P:PP)(b:MB)(T:0e1)(x app:K)(h:CP x app)(n s a:K):55 [28e7,0 x,17e1] [0e3,0e8,0e2] [268 3e9 b]=150 3e9 b [] T [(18e5).U<=16777216,mA P 35e8 35e8 3e9 [.Z (x.aI+2),0e2,6 18e5,0e8,0e3,3e9] [(98,6e3),(131,.X [28e7,0 x,17e1]),(132,10e6),(6,28e7),(113,8 [13e4,13e5,13e6]),(9,0e3),(139,0e8),(42,0e2),(88,.Z (x.aI+2)),(137,6 18e5)]]:=by replace h:=xL h;revert x app h;show 13e7;kernel_rfl
def al3(P:PP)(b:MB)(T:0e1)(x app:K)(h:CP x app)(n s a:K):55 [28e7,0 x,17e1] [0e3,0e8,0e2] [268 0e6 (b.eZ x (234 (b.tb x) 18e5))]=46 (b.eZ x (234 (b.tb x) 18e5)) [] [(18e5).U<=16777216,mA P 35e8 (117 (b.eZ x (234 (b.tb x) 18e5))) 0e6 [.Z (x.aI+2),0e2,6 18e5,0e8,0e3,3e9] [(98,6e3),(131,.X [28e7,0 x,17e1]),(132,10e6),(6,28e7),(113,8 [13e4,13e5,13e6]),(9,0e3),(139,0e8),(42,0e2),(88,.Z (x.aI+2)),(137,6 18e5)]]:=by replace h:=xL h;revert x app h;show 13e7;kernel_rfl
def WN(P:PP)(b:MB)(T:0e1)(e t:K)(h:IN e t)(n s a:K)(dt:0e0):263 P 23e3 [8e7,11e5,1e1] [0e3,0e8,0e2] [6e7,268 3e9 23e3]=150 3e9 23e3 [] T [(!(dt).jL)=true,dt.U<=16777216,mA P (117 23e3) (117 23e3) 3e9 [.Z (t.aI+2),0e2,6 dt,0e8,0e3,3e9] [(98,6e3),(131,.X [8e7,11e5,1e1]),(132,10e6),(6,8e7),(113,8 [13e4,13e5,13e6]),(9,0e3),(139,0e8),(42,0e2),(88,.Z (t.aI+2)),(137,6 dt)]]:=by replace h:=pJ h;revert e t h;show 13e7;kernel_rfl
def al4(P:PP)(b:MB)(T:0e1)(e t:K)(h:IN e t)(n s a:K)(dt:0e0):263 P 23e3 [8e7,11e5,1e1] [0e3,0e8,0e2] [6e7,268 0e6 ((23e3).eZ t (319 dt))]=46 ((23e3).eZ t (319 dt)) [] [(!(dt).jL)=true,dt.U<=16777216,mA P (117 23e3) (117 ((23e3).eZ t (319 dt))) 0e6 [.Z (t.aI+2),0e2,6 dt,0e8,0e3,3e9] [(98,6e3),(131,.X [8e7,11e5,1e1]),(132,10e6),(6,8e7),(113,8 [13e4,13e5,13e6]),(9,0e3),(139,0e8),(42,0e2),(88,.Z (t.aI+2)),(137,6 dt)]]:=by replace h:=pJ h;revert e t h;show 13e7;kernel_rfl
def WO(P:PP)(b:MB)(T:0e1)(e t:K)(h:IN e t)(n s a:K):263 P 23e8 [8e7,11e5,1e1] [0e3,0e8,0e2] [268 3e9 23e8]=150 3e9 23e8 [] T [mA P (117 23e8) (117 23e8) 3e9 [.Z (t.aI+2),0e2,11e0,0e8,0e3,3e9] [(98,6e3),(131,.X [8e7,11e5,1e1]),(132,10e6),(6,8e7),(113,8 [13e4,13e5,13e6]),(9,0e3),(139,0e8),(42,0e2),(88,.Z (t.aI+2)),(137,11e0)]]:=by replace h:=pJ h;revert e t h;show 13e7;kernel_rfl
def al5(P:PP)(b:MB)(T:0e1)(e t:K)(h:IN e t)(n s a:K):263 P 23e8 [8e7,11e5,1e1] [0e3,0e8,0e2] [268 0e6 ((23e8).eZ t 49e9)]=46 ((23e8).eZ t 49e9) [] [mA P (117 23e8) (117 ((23e8).eZ t 49e9)) 0e6 [.Z (t.aI+2),0e2,11e0,0e8,0e3,3e9] [(98,6e3),(131,.X [8e7,11e5,1e1]),(132,10e6),(6,8e7),(113,8 [13e4,13e5,13e6]),(9,0e3),(139,0e8),(42,0e2),(88,.Z (t.aI+2)),(137,11e0)]]:=by replace h:=pJ h;revert e t h;show 13e7;kernel_rfl
def al6(P:PP)(b:MB)(T:0e1)(i:K)(s:16e0):177 [48e9,6e5] []=46 (b.fB i 0e6) [] []:=by replace s:=mz s;revert i s;show 3e1;kernel_rfl
def al7(P:PP)(b:MB)(T:0e1)(fa s:K):c6 (dc P b 3 (.X [4e0,3e8]) [0e8,13e3] T [])=46 {b with gv:=(b.gv+4)} [362 (s+b.e9)] [361 (s+b.e9)=true,1<=16777216]:=ar
def al8(P:PP)(b:MB)(T:0e1)(fa s:K):c6 (dc P b 1 (.X [4e0,3e8]) [0e8,13e3] T [])=c5 0e6 (ad b (.X [25e3,14e5]) [0e8,13e3]) T []:=ar
def al9(P:PP)(b:MB)(T:0e1)(c q a t:K)(h:vk c)(s:19e3)(aC:0e0):55 [1e5,10e7,1e1] (0e2::aC) [6e7]=150 (.ag xi) b aC T [bJ (5e2<=a)=true]:=by replace s:=pI s;revert t s;show 3e1;replace h:=A8 h;revert c h;show 3e1;kernel_rfl
def ama(P:PP)(b:MB)(T:0e1)(c q a t:K)(h:vk c)(s:19e3)(aC:0e0):55 [1e5,10e7,1e1] (0e2::aC) [1e9,.v 0e6]=150 (.ag xj) b aC T [bJ (5e2<=a)=false,16e4=G 0e6]:=by replace s:=pI s;revert t s;show 3e1;replace h:=A8 h;revert c h;show 3e1;kernel_rfl
def amb(P:PP)(b:MB)(T:0e1)(c q a t app:K)(x:vk c)(s:Q3 q)(h:19e3)(r:Y6 app)(e:31e6≠q)(aC:0e0):55 [1e5,10e7,1e1] (0e2::aC) [1e9,37e3,37e3]=150 (.ag xk) b aC T [bJ (5e2<=a)=false,16e4=34e4,16e4=34e4]:=by replace h:=pI h;revert t h;show 3e1;replace x:=A8 x;revert c x;show 3e1;replace s:=QN s r e;clear e r;revert q app s;show 13e7;kernel_rfl
def WP(P:PP)(b:MB)(T:0e1)(c a t app:K)(h:vk c)(s:19e3)(x:app=0\/app=2)(v:V):55 [1e5,49e5,1e1] [0e2,v] [1e9,37e3,37e3,37e3]=46 {b with nl:=(b.nl++[.X [49e5,8 [v]]])} [] [bJ (5e2<=a)=false,16e4=34e4,16e4=34e4,16e4=34e4,b.nl.U+1<=16777216]:=by replace s:=pI s;revert t s;show 3e1;replace h:=A8 h;revert c h;show 3e1;replace x:=pI x;revert app x;show 3e1;kernel_rfl
def amc(P:PP)(b:MB)(T:0e1)(a fa s t:K)(h:19e3)(x:b.apr=3):55 [4e1,3e8,1e1] [0e2,0e8,13e3] [1e9,.v 3e4,.v 3e4,.v 3e4]=46 {b with gv:=(b.gv+4)} [362 (s+b.e9)] [bJ (5e2<=a)=false,16e4=G 3e4,16e4=G 3e4,16e4=G 3e4,361 (s+b.e9)=true,1<=16777216]:=by rw[x];rcases h with H|rfl<;>kernel_rfl
def amd(P:PP)(b:MB)(T:0e1)(a fa s t:K)(h:19e3)(x:b.apr=1):55 [4e1,3e8,1e1] [0e2,0e8,13e3] [1e9,.v 3e4,.v 3e4,.v 3e4]=c5 0e6 (ad b (.X [25e3,14e5]) [0e8,13e3]) T [bJ (5e2<=a)=false,16e4=G 3e4,16e4=G 3e4,16e4=G 3e4]:=by rw[x];rcases h with H|rfl<;>kernel_rfl
def ame(P:PP)(b:MB)(T:0e1)(f:K)(s:f=1\/f=2\/f=3\/f=4)(v:V):177 [4e0,0 f] [v]=46 {b with nl:=(b.nl++[.X [0 f,8 [v]]])} [] [b.nl.U+1<=16777216]:=by replace s:=QK s;revert f s;show 3e1;kernel_rfl
def NW(n:K)(x:I->bd)(s:2e1):2e1:= 1e9::((36e6).aj (λi=>cp.v (2 ((x i).aI:K)))++s)
def wc(n:K)(x:I->bd):K:=((36e6).aj λi=>((x i).aI:K)*256^i).lc
def y7(n:K)(b:MB)(p:K)(x:I->bd):6e1:=(decide (53e7<p+n)=false)::(36e6).tM λ(i:I)=>[dm 4e2 (p+i)=G (2 ((x i).aI:K)),a8 .f4 ((x i).aI:K) (256^i)=true]
def y8(n:K)(b:MB)(p v:K)(m:I):0e0:=(D.dR m).iT (λl (i:I)=>D.cM l (p+i).aI (38 (v.aK (256^i)) 256)) 4e2
def amf(P:PP)(b:MB)(T:0e1)(c n a o:K)(s:LU c n\/∃q,LS c n q):55 [1e5,0e7,12e6] [0e2] [6e7]=150 2e7 b [] T [bJ (53e7<a+o+n)=true]:=by replace s:=QM s;revert c n s;show 13e7;kernel_rfl
def amg(P:PP)(b:MB)(T:0e1)(c n a o:K)(x:I->bd)(s:LU c n):55 [1e5,0e7,12e6] [0e2] (NW n x [])=46 b [2 (wc n x)] (y7 n b (a+o) x++(288 1)):=by replace s:=Kr s;revert c n s;show 13e7;kernel_rfl
def LW(c n q w h m:K):Prop:=c=44/\n=1/\q=32/\w=256/\h=128/\m=4294967296\/c=48/\n=1/\q=64/\w=256/\h=128/\m=18446744073709551616\/c=46/\n=2/\q=32/\w=65536/\h=32768/\m=4294967296\/c=50/\n=2/\q=64/\w=65536/\h=32768/\m=18446744073709551616\/c=52/\n=4/\q=64/\w=4294967296/\h=2147483648/\m=18446744073709551616
def LWl:D 56e2:=[(44,1,32,256,128,4294967296),(48,1,64,256,128,18446744073709551616),(46,2,32,65536,32768,4294967296),(50,2,64,65536,32768,18446744073709551616),(52,4,64,4294967296,2147483648,18446744073709551616)]
def WQ(s:LW c n q w h m):(c,n,q,w,h,m)∈LWl:=by
 rcases s with⟨H,H,H,H,H,H⟩|⟨H,H,H,H,H,H⟩|⟨H,H,H,H,H,H⟩|⟨H,H,H,H,H,H⟩|⟨H,H,H,H,H,H⟩<;>decide
def WR{β:Type}(apu:K->K->K->K->K->K->β)(p:56e2):β:=apu p.1 p.2.1 p.2.2.1 p.2.2.2.1 p.2.2.2.2.1 p.2.2.2.2.2
def WS{β:Type}{apu apx:K->K->K->K->K->K->β}(l:D 56e2)(h:l.aj (WR apu)=l.aj (WR apx)):∀a b c d e f,(a,b,c,d,e,f)∈l->apu a b c d e f=apx a b c d e f:=λs s s s s s=>D.gG.mp h _
def amh(P:PP)(b:MB)(T:0e1)(c n q w h m a o:K)(x:I->bd)(s:LW c n q w h m):55 [1e5,0e7,12e6] [0e2] (NW n x [6e7])=46 b [2 (wc n x-w+m)] (y7 n b (a+o) x++[bJ (h<=wc n x)=true,1<=16777216]):=by replace s:=WQ s;revert c n q w h m s;show WS _ ?_;kernel_rfl
def ami(P:PP)(b:MB)(T:0e1)(c n q w h m a o:K)(x:I->bd)(s:LW c n q w h m):55 [1e5,0e7,12e6] [0e2] (NW n x [1e9])=46 b [2 (wc n x)] (y7 n b (a+o) x++[bJ (h<=wc n x)=false,1<=16777216]):=by replace s:=WQ s;revert c n q w h m s;show WS _ ?_;kernel_rfl
def amj(P:PP)(b:MB)(T:0e1)(c n a v o:K)(s:ST c n):55 [1e5,0e7,12e6] [2 v,0e2] [6e7]=150 2e7 b [] T [bJ (53e7<a+o+n)=true]:=by replace s:=Bb s;revert c n s;show 13e7;kernel_rfl
def amk(P:PP)(b:MB)(T:0e1)(c n a v o:K)(s:ST c n):55 [1e5,0e7,12e6] [2 v,0e2] [1e9]=201 b (y8 n b (a+o) v n.aI) [] T ((decide (53e7<a+o+n)=false)::(36e6).tM λ(i:I)=>[15 v (256^i)=true,9 (v.aK (256^i)) 256=true,bJ (0<=a+o+i/\a+o+i<((y8 n b (a+o) v i).U:K))=true]):=by replace s:=Bb s;revert c n s;show 13e7;kernel_rfl
universe e
section
open PySem PySem.W PyProof.Rows PySem.Calls PySem.Spec PySem.SeqAt
open Builtin hiding id
set_option backward.match.sparseCases false
def R.aS.fu{α:Type}(a:α)(F:MS)(ob:D Ob)(e:α)(s:MS)(b:D Ob):(R.aS a F ob=R.aS e s b)=(a=e/\F=s/\ob=b):=qV (424 ⟨x,app,z⟩ h.1)
def MS.mk.fu(o:1e0)(l:0e1)(r:2e1)(o':1e0)(e:0e1)(s:2e1):(MS.mk o l r=MS.mk o' e s)=(o=o'/\l=e/\r=s):=qV (424 ⟨x,app,z⟩ h.1)
def aml(h3:15e0){cN:0e0}(h:l5 (fP sh b' cN)){k:I}{bw:V}{au:0e0}{fa s:K}{o:2e1}{b9:6e1}{apu:K->fj}(dh:cF av sh 1e2 k (k+1) bw au 19e4 o=d9 (pH sh b' (k+1) cN fa s true) 19e4 b9)(e:13e1)(hr:m4 b k bw)(hm:iU b' k false)
  (IH:MC (.b hb jq) {fP sh b' cN with gv:=b'.gv+4} (k+1) [2 (325 s b'.e9)] apu):MC sh b k au (211 (dn+1+4)):=by
 have hd:=v9 dh e;clear dh;rcases h3 with H|rfl|rfl
 ·exact l6 (apu:=λdn=>apu (dn+4)) (λdn=>Ku av .a 2e6 b b' k dn bw au cN fa s) (j1 hr hd) (λdn=>ni (F:=[]) (ex:=[63,64,65,67,68,69]) ap h 45e1 (λB x=>mC 0 B (k+1) [] fa s) (λB x=>pH .a B (k+1) B.g fa s false) H ar) (NQ h hm (o9 IH))
 ·exact l6 (apu:=λdn=>apu (dn+4)) (λdn=>Ku av (.b fC []) 15e6 b b' k dn bw au cN fa s) (j1 hr hd) (λdn=>ni (F:=[]) (ex:=[64,65,66,68,69,70]) ap h 45e1 (λB x=>mC 0 B (k+1) [] fa s) (λB x=>pH (.b fC []) B (k+1) cN fa s false) H ar) (NQ h hm (o9 IH))
 ·exact l6 (apu:=λdn=>apu (dn+4)) (λdn=>Ku av (.b hb jq) (79 H) b b' k dn bw au cN fa s) (j1 hr hd) (λdn=>ni (F:=[]) (ex:=[66,63,64,67,68,69]) ap h 45e1 (λB x=>mC 0 B (k+1) [] fa s) (λB x=>pH (.b hb jq) B (k+1) cN fa s false) H ar) (NQ h hm (o9 IH))
structure n9(b:MB):Prop where
 m:∀i (f:I->I),(∀j,j<51->f j=j)->f9 f (b.m i)=b.m i
 B:∀f,bP f b.B=b.B
 T0:∀f,bP f b.T0=b.T0
 T1:∀f,bP f b.T1=b.T1
 T2:∀f,bP f b.T2=b.T2
 nl:∀f,bP f b.nl=b.nl
 c2:∀f,cJ f b.c2=b.c2
 e0:∀f,cJ f b.e0=b.e0
 e1:∀f,cJ f b.e1=b.e1
 d0:∀f,cJ f b.d0=b.d0
 d1:∀f,cJ f b.d1=b.d1
def MB.WT(f:I->I)(b:MB):MB:={b with m:=λi=>f9 f 30e2,T0:=bP f b.T0,T1:=bP f b.T1,T2:=bP f b.T2,nl:=bP f b.nl,c2:=72 b.c2,e0:=72 b.e0,e1:=72 b.e1,d0:=72 b.d0,d1:=72 b.d1}
def amm(b:MB)(oc au:0e0)(en:V)(apu f:I->I)(e:(λj=>cB (I.jN j 51) j (apu j))=f):(149 b au).aj (f9 f)=c9 (b.WT f) (bP f oc) 41e1 (bP f au):=by
 subst e;kernel_rfl
def WU(s:n9 b)(f:I->I)(h:∀j,j<51->f j=j)(a:bP f oc=oc)(x:41e1=en)(hs:bP f au=au):(149 b au).aj (f9 f)=149 b au:=by
 have e:=amm b oc au en f f (NN 51 h);unfold MB.WT at e;rw[a,x,hs,s.T0,s.T1,s.T2,s.nl,s.c2,s.e0,s.e1,s.d0,s.d1,y5 λi=>s.m i f h]at e;exact e
def uu(b:MB)(oc:0e0)(en:V)(au:0e0):(149 b au).U=51:=H
def amn{b9:6e1}(h:c6 r=c5 v O T b9):∃fD,r= 93 v fD b9/\fD.fG 51=O:=by
 cases r with
 |aS a F ob=>
  obtain⟨o,l,c⟩:=F;(show hT (Eq.mp (R.aS.fu ..) h) λx u s=>?_;subst x;subst s);(show hT (Eq.mp (MS.mk.fu ..) u) λh1 e s=>?_;subst e;subst s);exact⟨o,H,h1⟩
 |a7 i F ob=>cases h
 |no w=>cases h
def amo(p:n9 b)(m:21 oc oc)(a:∀f,41e1=en)(hs:21 au au)(h:fD.fG 51=149 b au)(r:∀k v,19 mH=2e5->∃v2,19e1=G v2/\∀f:I->I,(∀j,j<51->f j=j)->dE v2=dE 15e3):gb 51 fD (149 b au) T mH (gm 42e9 fD.U):=by
 have x:∀j,j<51->gm 42e9 fD.U j=j:=λj n=>by
  unfold gm;rw[D.uq n];rfl
 show gb.sD ?_ D.WV (λk v e=>?_) (by simp)
 ·rw[C3,WU p _ x (m _) (a _) (hs _),<-h];show D.V8 λi=>?_;rw[D.nX,D.nX];by_cases s:i<51
  ·rw[D.uq s,D.NC s];refine G ((fD[i]?).aj eI)=(fD[i]?).aj (λo=>G (eI o));have:i<fD.U:=by
    have:=bB D.U h;rw[D.qP,uu]at a9;lia
   rw[D.ic a9];rfl
  ·rw[D.q4 (by simp;exact I.C9 s),D.q4 (by rw[h,uu];exact I.C9 s)];rfl
 ·show aM (r k v e) λv2 e1 e2=>?_;exact⟨v2,e1,e2 _ x⟩
def amp{b:MB}(s:21 b.B b.B){k:I}{bw:V}(h:b.B[k]? =G bw)(f:I->I):72 bw=bw:=by
 have:=s f;rw[lE]at a9;have e:=bB (·[k]?) a9;simp only[D.nX,h,aq.ta,aq.G.fu]at e;exact e
def amq{b:MB}(s:21 b.B b.B){k:I}{bw:V}(h:b.B[k]? =G bw){ex:0e1}:∀k v,19 (1e7++[(131,bw)])=2e5->∃v2,19 (1e7++[(131,bw)]++ex)=G v2/\∀f:I->I,(∀j,j<51->f j=j)->dE v2=dE 15e3:=by
 intro k v e;show⟨v,wa e,λf x=>?_⟩;have hm:=iW e;clear e;simp only[b1,D.NS,D.uP,D.eR,kC.mk.fu,D.mn,mo]at hm;rcases hm with⟨_,H⟩|⟨_,H⟩|⟨_,H⟩|⟨_,H⟩|⟨_,H⟩
 ·exact bB (λv=>dE (.Z v)) (x 5 ap).bh
 ·exact bB (λv=>dE (.ad v _)) (s f).bh
 ·rfl
 ·exact bB (λv=>dE (.Z v)) (x 50 ap).bh
 ·rw[amp s h f]
def amr{F:MS}:kT F (5 1448):=17e5
def y9(a:n9 b')(m:21 b.B b.B){k:I}{bw:V}(h:b.B[k]? =G bw){oc au b6:0e0}{v en:V}(q:21 oc oc)(r:∀f,41e1=en)(hs:21 b6 b6)(l:∀f,15e3=v){o:2e1}{b9:6e1}
  (dh:c6 (dc av 1e2 b.apr bw au (1e7++[(131,bw)]) o)=c5 v (149 b' b6) (1e7++[(131,bw)]) b9) (q1:13e1):xN av b bw au v (149 b' b6):=by
 show aM (amn dh) λfD e j=>?_;have S:=hR 39 90 (22 1448 [6e3,bw,10e6,49e0]) ⟨373 1e2,1e7++[(131,bw)],o⟩;have i:apy av 90 39 (22 1448 [6e3,bw,10e6,49e0]) ⟨373 1e2,1e7++[(131,bw)],o⟩= .aS (.v v) ⟨fD,1e7++[(131,bw)],[]⟩ b9:=e;rw[i]at S;have s:=amo a q r hs j (T:=1e7++[(131,bw)]) (mH:=1e7++[(131,bw)]) λn u w=>by
  have:=amq m h (ex:=[]) n u w;rwa[D.dY]at a9
 have x:v=cJ (gm 42e9 fD.U) v:=(l _).bh;rw[x]at S;exact Wc (f:=gm 42e9 fD.U) S q1 s amr
def LC(b:MB)(k:I)(au:0e0)(bH:fj):Prop:=av 39 (.gj (.n 131) (357 b.B) k qF) 30e6 1e7 bH
def NX{b:MB}{k:I}{bw:V}(h:b.B[k]? =G bw):∀F,It.at F (357 b.B) k=G (G bw):=λF=>by
 refine G b.B[k]? =_;rw[h]
def NY(b:MB)(O:1e0)(bw:V):∀o,pE ⟨O,1e7,o⟩ (.n 131) bw= 123 () ⟨O,1e7++[(131,bw)],o⟩:=λo=>rfl
def WW(a:n9 b)(p:21 oc oc)(x:∀f,41e1=en)(hs:21 au au)(r:21 b0.B b0.B):gb 51 (149 b au) (149 b au) (b1 b0++ex) (b1 b0) 39e7:=
 ⟨⟨λi o e=>⟨o,e,by rw[ur]⟩,λi h=>h,λi j s s h=>h,λk v e=>⟨v,wa e,by rw[n5]⟩⟩,λi s=>rfl,I.hZ (uu ..).bh⟩
def oa(m:4e9)(f:I->I):bP f (m.aj bA)=m.aj bA:=by
 rw[lE,D.rB];rfl
def Da{b b':MB}(h:n9 b')(x:21 b.B b.B)(e1:b'.B=b.B)(e2:b'.apr=b.apr){k:I}{c:K}{aC:0e0}(v:c∈jQ)(s:b.B[k]? =G (.X (1e5::aC))){oc au b6:0e0}(n:oc=36e3)(hs:21 b6 b6){o:2e1}{b9:6e1}{bH:fj}
  (dh:290 1e2 (1e5::aC) au (1e7++[(131,.X (1e5::aC))]) o=201 b' oc b6 (1e7++[(131,.X (1e5::aC))]) b9) (q1:13e1) (IH:LC b' (k+1) b6 bH):LC b k au bH:=by
 subst n;have hd:=y9 h x s (oa b'.aN) 28e4 hs 28e4 dh q1;have r:b1 b'=1e7:=by unfold b1;rw[e1,e2]
 have m:=v8 (a3:= 24e4) (f:=λi=>i) (fL:=ad b' 0e6 b6) (gc:=1e7) (QQ av b b' 36e3 au b6 aC c v) (λp a=>by rw[D.cY]at a;exact a▸hd) (WW h (oa b'.aN) 28e4 hs (b0:=b) x);show yY (NX s) (NY b _ _) m ?_;unfold LC at IH;rw[e1,r]at IH;exact IH
def Db{b b':MB}(h:n9 b')(r:21 b.B b.B){k:I}{bw:V}(s:b.B[k]? =G bw){oc au b6:0e0}{en w:V}(m:21 oc oc)(x:∀f,41e1=en)(hs:21 b6 b6){o:2e1}{b9:6e1}{ex:0e1}
  (dh:124 av 39 qF ⟨30e6,1e7++[(131,bw)],o⟩= .aS (105 w) ⟨149 b' b6,1e7++ex,[]⟩ b9) (q1:13e1):LC b k au (.Y (105 w) (149 b' b6) 1e7):=by
 have n:124 av 39 qF ⟨30e6,1e7++[(131,bw)],o⟩= .aS (v7 39e7 (A.f (.bj w))) ⟨149 b' b6,1e7++ex,[]⟩ b9:=by
  have e:v7 39e7 (A.f (.bj w))=A.f (.bj w):=by refine A.f (.bj (cJ 39e7 w))=_;rw[n5]
  rw[e];exact dh
 have a:=v8 (fL:=149 b' b6) (gc:=1e7) n q1 (WW h m x hs (b0:=b) r);exact akd (NX s) (NY b _ _) a
set_option genCtorIdx true in
inductive apv where
 |cz|j2|rf|rx|x|s8
def KV:apv->V->Prop
 | .cz,v=>∃n:K,v= 0e3/\0<=n/\n<4294967296
 | .j2,v=>∃n:K,v= 0e3/\0<=n/\n<18446744073709551616
 | .rf,v=>v= 0e6\/∃n:K,v= 0 n/\0<=n/\n<6
 | .rx,v=>v= 0e6\/∃n:K,v= 0 n
 | .x,v=>v= 0e6\/∃(n:K) (t:al),v= .y n t
 | .s8,v=>∃n:K,v= 0e3/\0<=n/\n<256
@[elab_as_elim] def ij {C:V->Prop} (h:KV .cz v) (g:∀n:K,0<=n/\n<4294967296->C (.y n true)):C v:=by
 (show aM h λn s x=>?_;try clear h;subst s);exact g n x
def KV.x(h:KV q v):KV .x v:=by
 cases q with
 |cz=>(show aM h λn s e=>?_;try clear h;subst s);exact 354 n H
 |j2=>(show aM h λn s e=>?_;try clear h;subst s);exact 354 n H
 |rf=>rcases h with H|⟨n,H,_⟩;exact .a2 H;exact .aD ⟨n,_,H⟩
 |rx=>rcases h with H|⟨n,H⟩;exact .a2 H;exact .aD ⟨n,_,H⟩
 |x=>exact h
 |s8=>(show aM h λn s e=>?_;try clear h;subst s);exact 354 n H
def KV.eQ(h:KV q v)(f:I->I):15e3=v:=by
 rcases h.x with H|⟨n,t,H⟩<;>rfl
def eJ(q:apv)(l:0e0):Prop:=∀v∈l,KV q v
def eJ.eQ(h:eJ q l)(f:I->I):bP f l=l:=by
 rw[lE];exact(D.yA λv s=>(h v s).eQ f).aU (D.map_id l)
def uv(p:K×V):V:= .X [0 p.1,6 [p.2]]
def uw(p:K×V):V:= .X [0 p.1,8 [p.2]]
structure c7(b:MB)(k:I)(ns:D (K×V)):Prop where
 aN:b.aN.U=16\/b.aN.U=32
 T0:eJ .rf b.T0/\b.T0.U<=6
 T1:eJ .rx b.T1/\b.T1.U<=4
 T2:eJ .rf b.T2/\b.T2.U<=7
 c0:0<=b.c0/\b.c0<4294967296
 c1:0<=b.c1/\b.c1<18446744073709551616
 c2:KV .rf b.c2
 e0:b.e0= .aa .L\/∃l,b.e0= .ad l true/\eJ .rf l/\l.U=4
 e1:b.e1= .aa .L\/∃l,b.e1= .ad l true/\eJ .rx l/\l.U=2
 d0:b.d0= .aa .L\/∃l,b.d0= .cg l/\l.U=8
 d1:b.d1= .aa .L\/∃l,b.d1= .cg l/\l.U=2
 no:b.no=ns.aj uv
 nl:b.nl=ns.aj uw
 ns:(∀p∈ns,KV .x p.2)/\ns.U<=k
 e9:0<=b.e9/\b.e9<1000
 apr:b.apr=1\/b.apr=3
 g:eJ .x b.g
 B:(∀f,bP f b.B=b.B)/\b.B.U<=1000
def WX{ns:33e4}(h:∀p∈ns,KV .x p.2)(f:I->I):bP f (ns.aj uv)=ns.aj uv/\bP f (ns.aj uw)=ns.aj uw:=by
 constructor
 ·rw[lE,D.rB];show D.yA λp s=>?_;refine 72 (uv p)=uv p;exact bB (λv=>uv (p.1,v)) ((h p s).eQ f)
 ·rw[lE,D.rB];show D.yA λp s=>?_;refine 72 (uw p)=uw p;exact bB (λv=>uw (p.1,v)) ((h p s).eQ f)
def Dc(h:v= 0e6\/∃l,v= 6 l/\eJ q l/\l.U=n)(f:I->I):15e3=v:=by
 rcases h with H|⟨l,H,s,_⟩
 ·rfl
 ·exact bB (V.ad · _) (s.eQ f)
def Dd(h:v= 0e6\/∃l,v= .cg l/\l.U=n)(f:I->I):15e3=v:=by
 rcases h with H|⟨l,H,_⟩<;>rfl
def kr(apC:I)(m:4e8):Prop:=∀i (f:I->I),(∀j,j<apC->f j=j)->f9 f (m i)=m i
section
variable{b:MB}{k:I}{ns:D (K×V)}
def c7.wd(h:20e8)(hm:kr 62 b.m):l5 b:=⟨hm,h.B.1,h.T0.1.eQ,h.T1.1.eQ,h.T2.1.eQ,λf=>by rw[h.no];exact(WX h.ns.1 f).1,h.g.eQ,h.c2.eQ,Dc h.e0,Dc h.e1,Dd h.d0,Dd h.d1⟩
def c7.og(h:20e8){mL:4e8}(hm:kr 51 mL):n9 {b with m:=mL}:=⟨hm,h.B.1,h.T0.1.eQ,h.T1.1.eQ,h.T2.1.eQ,λf=>by refine bP f b.nl=b.nl;rw[h.nl];exact(WX h.ns.1 f).2,h.c2.eQ,Dc h.e0,Dc h.e1,Dd h.d0,Dd h.d1⟩
universe e
abbrev lw(mL:4e8)(b:MB):MB:={b with m:=mL}
inductive De (b:MB) (apu:K->fj):Prop
 |mk (S:I) (kn:D (V×V)) (k:K) (aqL WY:D V) (aC:D aps) (c:K) (e:apu=(λdn=> .Y (.f .bz) (dD S kn [] k aqL WY false b aC) (dJ (dn+c))))
  (q:(S=55/\WY=[]/\aC=[])\/(S=62/\∃apw E,(apw= .au []\/apw= .ay [] true)/\(E=[]\/E=jq)/\aC=apw::E))
inductive za (b:MB) (C:aH) (z:am) (apu:K->fj):Prop
 |mk (sh:Sh) (k:K) (au:D V) (h:hh sh) (e:apu=λzz=> .a7 (bZ sh b k []).U (ej sh b k au (.a7 C [(58,.ag z)])) [])
def Df(b:MB)(s:V)(apu:K->fj):Prop:=
 (s= .X [28e9,5e7]/\De b apu)\/(∃z,s= .X [.ag rJ,7e8]/\cj.rL z=true/\za b 51 z apu)\/(s= .X [25e3,14e5]/\za b 63 h7 apu)
structure aqM(b0 bF:MB)(en:V)(cA:D V):Prop where
 e1:bF.m=b0.m
 e2:bF.B=b0.B
 e3:bF.e9=b0.e9
 e4:bF.apr=b0.apr
 e5:∀f,cJ f en=en
 apH:∀f,bP f cA=cA
inductive apF (mL:I->aps) (b0:MB) (sh:Sh) (b:MB) (k:I) (au:D V):Prop
 |mk (apu:K->fj) (gn en:V) (cA:D V) (bF:MB) (aqN:I) (nsF:D (K×V)) (h1:MC sh b k au apu) (h2:∀mL,kr 51 mL->LC (lw mL b) k au (.Y (.f (.bj gn)) (c9 (lw mL bF) (bF.aN.aj bA) en cA) (b1 b))) (h3:Df bF gn apu) (h4:c7 bF aqN nsF) (t:aqM b0 bF en cA)
def bt(b b':MB):Prop:=b'.m=b.m/\b'.B=b.B/\b'.e9=b.e9/\b'.apr=b.apr
def ams(h:35e1):b1 b'=1e7:=by
 unfold b1;rw[h.2.1,h.2.2.2]
def De.we{apu:K->fj}(h:De b apu)(c:K):De b (211 (dn+c)):=by
 obtain(⟨S,x,k,s,e,aC,c2,H,q⟩):=h;exact⟨S,x,k,s,e,aC,c+c2,y5 λdn=>by refine fj.Y _ _ (dJ (dn+c+c2))=_;rw[K.Wo],q⟩
def za.we{apu:K->fj}(h:za b C z apu)(c:K):za b C z (211 (dn+c)):=by
 obtain(⟨sh,k,au,q,H⟩):=h;exact⟨sh,k,au,q,H⟩
def Df.we{apu:K->fj}(h:Df b gn apu)(c:K):Df b gn (211 (dn+c)):=
 h.f5 (.f5 id λh=>h.we c) (.f5 (.f5 λs=> .f5 id (.f5 id λh=>h.we c)) (.f5 id λh=>h.we c))
def zb{mL:4e8}(hs:35e1)(hm:∀apu,MC sh' b' (k+1) b6 apu->MC sh b k au (211 (dn+c)))(a:∀mL,kr 51 mL->∀bH,LC 23e4 (k+1) b6 bH->LC 14e0 k au bH)(e:apF mL b0 sh' b' (k+1) b6):32e3:=by
 obtain(⟨apu,s,en,cA,r,h,m,h1,h2,h3,x,p⟩):=e;exact⟨_,s,en,cA,r,h,m,hm apu h1,λmL hL=>a mL hL _ (ams hs▸h2 mL hL),h3.we c,x,p⟩
structure Cx(mL:I->aps)(sh:Sh)(b:MB)(k:I)(ns:D (K×V))(bw:V):Prop where
 apx:c7 b k ns
 hm:kr 62 b.m
 hL:kr 51 mL
 h3:hh sh
 hr:b.B[k]? =G bw
section
variable{mL:I->aps}{sh:Sh}{b b' b0:MB}{k:I}{ns lf:D (K×V)}{au b6:D V}{c:K}{r:D V}{o:D cp}{o2:(I->aps)->D cp}{b9:D Prop}{nk:(I->aps)->D Prop}{oc:(I->aps)->D V}
def Cx.at(C:Cx mL sh b k ns bw):m4 b k bw:=C.hr
def zc(hs:35e1)(s:7e4):iU b' k false:=by
 refine bJ _=false;rw[hs.2.1];simp only[decide_eq_false_iff_not];lia
def amt(hs:35e1)(s:k+1=b.B.U):iU b' k true:=by
 refine bJ _=true;rw[hs.2.1];simp only[mW];exact K.hZ (bB I.cast (id (Eq.bh s)))
def c7.up(apx:20e8):82 1e2 (k+1):=⟨apx.aN,apx.T0,apx.T1,apx.T2,apx.c0,apx.c1,apx.c2,apx.e0,apx.e1,apx.d0,apx.d1,apx.no,apx.nl,⟨apx.ns.1,I.aeK apx.ns.2⟩,apx.e9,apx.apr,apx.g,apx.B⟩
def fW(C:18 (1e5::r))(a:7e4)(s:c∈jQ)(hs:35e1)(e:c7 b' (k+1) lf)(x:21 b6 b6)
  (dh:302 (k+1) (1e5::r) au (1e5::r) o=d9 (bZ sh b' (k+1) b6) (32 (1e5::r)) b9) (ho:13e1)
  (l7:∀mL,290 1e6 (1e5::r) au (1e7++[(131,.X (1e5::r))]) (o2 mL)=201 23e4 33e2 b6 (1e7++[(131,.X (1e5::r))]) (nk mL)) (l8:46e8) (q6:∀mL,33e2=36e3)
  (IH:apF mL b0 sh b' (k+1) b6):32e3:=
 zb hs (λapu h=>Wx dh ho C.at (zc hs a) h) (λmL hL bH h=>Da (b:=14e0) (b':=23e4) (e.og hL) C.apx.B.1 hs.2.1 hs.2.2.2 s C.hr (q6 mL) x (l7 mL) (l8 mL) h) IH
def amu(C:18 (1e5::r))(a:7e4)(e:c∈jQ)(hs:35e1)(x:c7 b' (k+1) lf)(s:21 b6 b6)
  (dh:302 (k+1) (1e5::r) au (1e5::r) o=d9 (ej sh b' (k+1) b6 g) (32 (1e5::r)) b9) (ho:13e1)
  (l7:∀mL,290 1e6 (1e5::r) au (1e7++[(131,.X (1e5::r))]) (o2 mL)=201 23e4 33e2 b6 (1e7++[(131,.X (1e5::r))]) (nk mL)) (l8:46e8) (q6:∀mL,33e2=36e3)
  (IH:apF mL b0 sh b' (k+1) b6):32e3:=
 zb hs (λapu h=>aln C.h3 (x.wd (hs.1▸C.hm)) s dh ho C.at (zc hs a) h) (λmL hL bH h=>Da (b:=14e0) (b':=23e4) (x.og hL) C.apx.B.1 hs.2.1 hs.2.2.2 e C.hr (q6 mL) s (l7 mL) (l8 mL) h) IH
def amv(h:LC (182 (fP sh b' cN)) k au bH):LC 23e4 k au bH:=by
 cases sh<;>exact h
def WZ(C:18 (1e5::r))(m:7e4)(v:c∈jQ)(hs:35e1)(s:c7 (fP sh b' cN) (k+1) lf)(x:21 b6 b6)
  (dh:302 (k+1) (1e5::r) au (1e5::r) o=d9 (vm sh b' (k+1) cN b6 [3e7]) (32 (1e5::r)) b9) (ho:13e1)
  (l7:∀mL,290 1e6 (1e5::r) au (1e7++[(131,.X (1e5::r))]) (o2 mL)=201 23e4 33e2 b6 (1e7++[(131,.X (1e5::r))]) (nk mL)) (l8:46e8) (q6:∀mL,33e2=36e3)
  (IH:apF mL b0 (y6 sh) (fP sh b' cN) (k+1) b6):32e3:=by
 have e:71 (fP sh b' cN):=by cases sh<;>exact hs
 have hm:kr 62 (fP sh b' cN).m:=by rw[e.1];exact C.hm
 have n:∀mL,kr 51 mL->n9 23e4:=λmL hL=>by
  have:=s.og hL;cases sh with
  |a=>exact⟨a9.m,a9.B,a9.T0,a9.T1,a9.T2,a9.nl,a9.c2,a9.e0,a9.e1,a9.d0,a9.d1⟩
  |b w E=>exact a9
 exact zb e (λapu h=>alp C.h3 (s.wd hm) x dh ho C.at (zc hs m) h) (λmL hL bH h=>Da (b:=14e0) (b':=23e4) (n mL hL) C.apx.B.1 hs.2.1 hs.2.2.2 v C.hr (q6 mL) x (l7 mL) (l8 mL) (amv h)) IH
def je(C:18 (1e5::r))(m:c∈19::jQ)(hs:35e1)(s:c7 b' (k+1) lf)(h0:14e1)(x:21 cA cA)
  (dh:fT (302 (k+1) (1e5::r) au (1e5::r) o)=gw (275 (k+1) []).U (138 b' (k+1) b6 51 [(58,7e8)]) b9) (ho:13e1)
  (l7:∀mL,290 1e6 (1e5::r) au (1e7++[(131,.X (1e5::r))]) (o2 mL)=c5 7e8 (87 23e4 33e2 cA) (1e7++[(131,.X (1e5::r))]) (nk mL)) (l8:46e8) (q6:∀mL,33e2=36e3) (hz:cj.rL z=true):32e3:=by
 have cQ:∀mL,kr 51 mL->LC 14e0 k au (.Y (306 [.ag rJ,7e8]) (87 23e4 36e3 cA) 1e7):=λmL hL=>by
  have a:=l7 mL;rw[q6 mL]at a;have hd:=y9 (b:=14e0) (b':=23e4) (s.og hL) C.apx.B.1 C.hr (oa b'.aN) 41e9 x 41e9 a (l8 mL);exact Db (b:=14e0) (b':=23e4) (w:= .X [.ag rJ,7e8]) (s.og hL) C.apx.B.1 C.hr (oa b'.aN) (en:= 0e6) 41e9 x (adi av 14e0 23e4 36e3 au cA r z c m) (39 hd)
 show⟨_,_,0e6,cA,b',k+1,lf,Wy C.h3 dh H ho C.at,cQ,.aD (.a2 ⟨z,H,hz,sh,k+1,b6,C.h3,?_⟩),s,?_⟩
 ·have e:(275 (k+1) []).U=(bZ sh b' 49e1 []).U:=by
   clear dh;rcases C.h3 with H|rfl|rfl<;>rfl
  clear C;rw[e];rfl
 ·exact⟨hs.1.aU h0.1.bh,hs.2.1.aU h0.2.1.bh,hs.2.2.1.aU h0.2.2.1.bh,hs.2.2.2.aU h0.2.2.2.bh,λh=>rfl,x⟩
universe e
def ee:D apv->0e0->Prop
 | [],[]=>ku
 |q::ts,v::vs=>KV q v/\ee ts vs
 |_,_=>fR
def ee.eQ:∀{ts:D apv} {vs:0e0},ee ts vs->∀f,bP f vs=vs
 | [],[],_,f=>rfl
 |q::ts,v::vs,h,f=>(bB (· ::_) (h.1.eQ f)).aU (bB (v:: ·) (ee.eQ h.2 f))
def ee.cR:∀{ts:D apv} {vs:0e0},ee ts vs->vs.U=ts.U
 | [],[],_=>rfl
 |q::ts,v::vs,h=>by rw[D.m6,D.m6,ee.cR h.2]
def Nx(mL:4e8)(b0 b:MB)(k:I)(ts:D apv):Prop:=∀s b' lf b6,hh s->35e1->c7 b' (k+1) lf->ee ts b6->apF mL b0 s b' (k+1) b6
def amw(P:PP)(d:I)(O:1e0)(T:0e1)(n:K):227 20 1 84 [0e3,29e0] []= 93 (2 (Builtin.i7 n 4294967295)) O []:=akh P d O T n
def W0:58 av (d+1) 84 [0e3,29e0] 47e5:=by
 intro O T;show iY (n:=20) (o1:=[]) (o2:=[]) (ob:=[]) ?_ (λp s=>nomatch s) 17e5;rw[amw,C2]
def l9(n:K)(h:0<=apB):n.ah apB=n % apB:=K.fmod_eq_emod_of_nonneg n h
def bt.b7(b:MB):71 1e2:=⟨H,H,H,H⟩
section
variable{mL:I->aps}{sh:Sh}{b b0:MB}{k:I}{ns:D (K×V)}{ts:D apv}{aC:D V}
def amx(C:18 [5e8,0e3])(e:7e4)(x:30e7)(r:ts.U<=5)(a:76 (.cz::ts)):41e0:=by
 have h1:=x.cR;have s:=λmL:4e8=>(by
  have s:=WI av 1e6 (1e7++[(131,.X [5e8,0e3])]) n aC
  rw[l9 n ap]at s
  exact s:_)
 have h:ee (.cz::ts) (2 47e5::aC):=⟨⟨_,H,K.nh _ ap,K.n8 _ ap⟩,x⟩;exact 122 e ap h.eQ (Wt av sh 1e2 k (k+1) _ n aC) (24 W0 bM) s (231 cH bM) (a sh _ ns _ C.h3 5e3 C.apx.up h)
def amy(r:0<=n/\n<256)(C:18 [5e8,0e3])(e:7e4)(x:30e7)(p:ts.U<=5)(a:76 (.s8::ts)):41e0:=by
 have h1:=x.cR;have s:=λmL:4e8=>(by
  have s:=WI av 1e6 (1e7++[(131,.X [5e8,0e3])]) n aC
  rw[l9 n ap]at s
  exact s:_)
 have h:ee (.s8::ts) (2 47e5::aC):=⟨⟨_,H,K.nh _ ap,bM⟩,x⟩;exact 122 e ap h.eQ (Wt av sh 1e2 k (k+1) _ n aC) (24 W0 bM) s (231 cH bM) (a sh _ ns _ C.h3 5e3 C.apx.up h)
def amz(C:18 [21e5,0e3])(e:7e4)(x:30e7)(r:ts.U<=5)(a:76 (.j2::ts)):41e0:=by
 have h1:=x.cR;have s:=λmL:4e8=>(by
  have s:=alz av 1e6 (1e7++[(131,.X [21e5,0e3])]) n aC
  rw[l9 n ap]at s
  exact s:_)
 have h:ee (.j2::ts) (2 50e4::aC):=⟨⟨_,H,K.nh _ ap,K.n8 _ ap⟩,x⟩;exact 122 e ap h.eQ (akF av sh 1e2 k (k+1) _ n aC) (24 Wj bM) s (231 cH bM) (a sh _ ns _ C.h3 5e3 C.apx.up h)
def amA(x:q= .rf\/q= .rx)(C:18 [0 208,0e3])(e:7e4)(h:30e7)(r:ts.U<=5)(a:76 (q::ts)):41e0:=by
 have h1:=h.cR;have s:ee (q::ts) (0e6::aC):=⟨by rcases x with H|rfl<;>exact .a2 H,h⟩;exact 122 e ap s.eQ (akG av sh 1e2 k (k+1) _ n aC) 40e9 (λmL=>alA av 1e6 _ n aC) 44e3 (a sh _ ns _ C.h3 5e3 C.apx.up s)
def amB(h:0<=n/\n<6):∃v:K,dm [1e3,1e8,0e7,10e8,3e8,3e4] n=G (0 v)/\0<=v/\v<6:=by
 have:n=0\/n=1\/n=2\/n=3\/n=4\/n=5:=bM;rcases a9 with H|rfl|rfl|rfl|rfl|rfl
 ·exact⟨1,H,ap,ap⟩
 ·exact⟨2,H,ap,ap⟩
 ·exact⟨0,H,ap,ap⟩
 ·exact⟨4,H,ap,ap⟩
 ·exact⟨5,H,ap,ap⟩
 ·exact⟨3,H,ap,ap⟩
def amC(x:0<=n/\n<6)(C:18 [0 210,0e3])(a:7e4)(h:30e7)(m:ts.U<=5)(r:76 (.rf::ts)):41e0:=by
 have h1:=h.cR;show aM (amB x) λv e p=>?_;have s:ee (.rf::ts) (0 v::aC):=⟨247 v H p,h⟩;exact 122 a ap s.eQ (akH av sh 1e2 k (k+1) _ n v aC) (24 e bM) (λmL=>alB av 1e6 _ n v aC) (231 e bM) (r sh _ ns _ C.h3 5e3 C.apx.up s)
def amD(C:18 [29e0,0e7])(x:7e4)(h:30e7)(a:ts.U<=5)(e:76 (.rx::ts)):41e0:=by
 have h1:=h.cR;have s:ee (.rx::ts) (0 9::aC):=⟨.aD ⟨9,H⟩,h⟩;exact 122 x ap s.eQ (akI av sh 1e2 k (k+1) _ aC) 40e9 (λmL=>alC av 1e6 _ aC) 44e3 (e sh _ ns _ C.h3 5e3 C.apx.up s)
def amE(a:KV .rx v)(C:18 [43e1])(x:7e4)(h:30e7)(r:ts.U<=5)(e:76 (.x::ts)):48 (v::aC):=by
 have h1:=h.cR;rcases a with H|⟨n,H⟩
 ·have s:ee (.x::ts) (1e3::aC):=⟨19e7,h⟩;exact 122 x ap s.eQ (akJ av sh 1e2 k (k+1) _ aC) 40e9 (λmL=>alD av 1e6 _ aC) 44e3 (e sh _ ns _ C.h3 5e3 C.apx.up s)
 ·have s:ee (.x::ts) (0e7::aC):=⟨19e7,h⟩;exact 122 x ap s.eQ (akK av sh 1e2 k (k+1) _ n aC) 40e9 (λmL=>alE av 1e6 _ n aC) 44e3 (e sh _ ns _ C.h3 5e3 C.apx.up s)
def amF(C:18 [16e3,0e7])(x:7e4)(h:30e7)(a:ts.U<=5)(e:76 (.x::ts)):41e0:=by
 have h1:=h.cR;have s:ee (.x::ts) (31e5::aC):=⟨19e7,h⟩;exact 122 x ap s.eQ (akL av sh 1e2 k (k+1) _ aC) 40e9 (λmL=>alF av 1e6 _ aC) 44e3 (e sh _ ns _ C.h3 5e3 C.apx.up s)
def amG(C:18 [16e3,1e3])(x:7e4)(h:30e7)(a:ts.U<=5)(e:76 (.x::ts)):41e0:=by
 have h1:=h.cR;have s:ee (.x::ts) (31e4::aC):=⟨19e7,h⟩;exact 122 x ap s.eQ (akM av sh 1e2 k (k+1) _ aC) 40e9 (λmL=>alG av 1e6 _ aC) 44e3 (e sh _ ns _ C.h3 5e3 C.apx.up s)
def amH(C:18 [16e3,1e8])(x:7e4)(p:30e7)(m:ts.U<=5)(a:76 (.x::ts)):41e0:=by
 have h1:=p.cR;have s:ee (.x::ts) (b.c2::aC):=⟨C.apx.c2.x,p⟩;have r:=λmL:4e8=>alH av 1e6 (1e7++[(131,.X [16e3,1e8])]) aC;rcases C.apx.c2 with e|⟨n,e,_⟩
 ·have hm:=akN av sh 1e2 k (k+1) (32 [16e3,1e8]) aC;have h:({aF b with c2:= .aa .L}:MB)=1e2:=by rw[<-e]
  rw[h,<-e]at hm;exact 122 x ap s.eQ hm 40e9 r 44e3 (a sh _ ns _ C.h3 5e3 C.apx.up s)
 ·have hm:=akO av sh 1e2 k (k+1) (32 [16e3,1e8]) n aC;have h:({aF b with c2:= .y n false}:MB)=1e2:=by rw[<-e]
  rw[h,<-e]at hm;exact 122 x ap s.eQ hm 40e9 r 44e3 (a sh _ ns _ C.h3 5e3 C.apx.up s)
def amI(r:30e4)(C:18 [21e4,0e7])(e:7e4)(x:30e7)(a:76 ts):48 (v::aC):=by
 show ij r λn h=>?_;have hs:71 {aF b with c0:=n}:=5e3;have s:82 {aF b with c0:=n} (k+1):={C.apx.up with c0:=h};exact fW C e ap hs s x.eQ (akP av sh 1e2 k (k+1) _ n aC) a4 (λmL=>alI av 1e6 _ n aC) 48e3 13e8 (a sh _ ns _ C.h3 hs s x)
def amJ(e:KV .j2 v)(C:18 [21e4,1e3])(a:7e4)(s:30e7)(r:76 ts):48 (v::aC):=by
 (show aM e λn p h=>?_;try clear e;subst p);have hs:71 {aF b with c1:=n}:=5e3;have x:82 {aF b with c1:=n} (k+1):={C.apx.up with c1:=h};exact fW C a ap hs x s.eQ (akQ av sh 1e2 k (k+1) _ n aC) a4 (λmL=>alJ av 1e6 _ n aC) 48e3 13e8 (r sh _ ns _ C.h3 hs x s)
def amK(a:KV .rf v)(C:18 [21e4,1e8])(x:7e4)(h:30e7)(e:76 ts):48 (v::aC):=by
 have hs:71 {aF b with c2:=v}:=5e3;have s:82 {aF b with c2:=v} (k+1):={C.apx.up with c2:=a};exact fW C x ap hs s h.eQ (akR av sh 1e2 k (k+1) _ v aC) a4 (λmL=>alK av 1e6 _ v aC) 48e3 13e8 (e sh _ ns _ C.h3 hs s h)
universe e
def wf{l:I}{apt a n:K}(x:(l:K)<=apt)(s:apt<=7)(e:0<=a)(h:a+n<=(l:K)):106 n:=bM
def zd{l m:I}{apt a n:K}(x:(l:K)<=apt)(s:apt<=7)(e:0<=a)(h:a+n<=(l:K))(hm:m=n.aI):106 m:=hm▸K.qw.bl (wf x s e h)
def Dg{l m:I}{apt a n:K}(b:(l:K)<=apt)(x:apt<=7)(e:0<=a)(p:0<=n)(h:a+n<=(l:K))(hm:m=n.aI):l+m<=16777216:=
 have s:l<=7:=K.BU.mp (K.dV b x)
 have r:m<=l:=hm▸K.qw.bl (K.dV (K.NZ e) h)
 I.dV (I.BF s (I.dV r s)) ap
def W7{n:K}(h0:0<=n)(h:106 n):jM n=true:=by simp only[jM,al.lb,mW];lia
def Dh{l m:I}{apt n:K}(h:(l:K)+n<=apt)(s:apt<=7)(h0:0<=n)(hm:m=n.aI):n<=16777216/\m<=16777216/\((l+m:I):K)<=apt:=
 have e:(m:K)=n:=hm▸K.uj h0
 have b:n<=16777216:=K.dV (K.dV (K.NZ (K.nQ l)) h) (K.dV s ap)
 ⟨b,K.BU.mp (e▸b),by rw[K.natCast_add,e];exact h⟩
def W8{l:I}{apt:K}(h:(l:K)<=apt)(s:apt<=7):106 l:=I.dV (K.BU.mp (K.dV h s)) ap
def eJ.cM{q:apv}{l:0e0}{v:V}{i:I}(h:eJ q l)(x:KV q v):eJ q (l.cM i v):=λw s=>by
 rcases D.B8 s with s|rfl
 ·exact h w s
 ·exact x
def eJ.lV{q:apv}{l m:0e0}(h:eJ q l)(hm:eJ q m):eJ q (l++m):=λw s=>(300 s) (h w) (hm w)
def eJ.fh{q:apv}{l:0e0}{n:I}(h:eJ q l):eJ q (l.fh n):=λw s=>h w (D.U6 s)
def eJ.fG{q:apv}{l:0e0}{n:I}(h:eJ q l):eJ q (l.fG n):=λw s=>h w (D.U7 s)
def eJ.pS{q:apv}{l:0e0}{x app:8e5}(h:eJ q l):eJ q (176 l):=h.fh.fG
def eJ.bV{q:apv}{l m:0e0}{x app:8e5}(h:eJ q l)(hm:eJ q m):eJ q (bV l x app m):=(h.fG.lV hm).lV h.fh
def wg{α:Type}(v:α)(n:K):dM [v] n=287 v:=by
 unfold dM;generalize n.aI=m;induction m with
 |i4=>rfl
 |hH m ih=>rw[D.Lm,D.R8,ih,D.Lm];rfl
def ze{α:Type}(v:α)(n:K):(dM [v] n).U=n.aI:=by rw[wg,D.Cy]
def eJ.bq{q:apv}{v:V}{n:K}(h:KV q v):eJ q (dM [v] n):=λw s=>by
 rw[wg]at s;rw[D.ahJ s];exact h
def W9{q:apv}{l:0e0}{a:K}(h:eJ q l)(h0:0<=a)(x:a<l.U):∃v,dm l a=2e5/\KV q v:=by
 obtain⟨i,H⟩:=K.N0 h0;have s:i<l.U:=by exact K.Le.mp x
 exact⟨l[i],D.ic s,h _ (D.N1 s)⟩
def q7{α:Type}(apt m:8e4){a n:K}(x:0<=a)(s:0<=n)(h:a+n<=apt.U)(hm:m.U=n.aI):(204 apt m).U=apt.U:=by
 rw[NV apt m x s h hm,D.hN,D.hN,D.qP,D.sf,hm,I.NR (I.dV (I.tR ..) (NU x s h)),I.agu (NU x s h)]
def Di{α:Type}(l:8e4){n:K}(s:0<=n)(h:l.U=n.aI):50 l 0 (0+n)=l:=by
 rw[(mO l (K.eC 0) s bM).1];rw[<-h];simp
def kt(t:K):apv:=if t=1 then .rx else .rf
def amL(t:K):22e4= .rf\/22e4= .rx:=by
 unfold kt;split
 ·exact 21e6
 ·exact 2e6
def wh{t:K}(s:7e3):0<=lm t/\lm t<=7:=by rcases s with H|rfl|rfl<;>decide
def c7.tb{b:MB}{k:I}{ns:33e4}(apx:20e8){t:K}(s:7e3):eJ 22e4 10e3/\5e2<=lm t:=by
 have h0:=apx.T0.2;have h1:=apx.T1.2;have h2:=apx.T2.2;rcases s with H|rfl|rfl
 ·exact⟨apx.T0.1,by refine(b.T0.U:K)<=6;exact I.BB.KX H H h0⟩
 ·exact⟨apx.T1.1,by refine(b.T1.U:K)<=4;exact I.BB.KX H H h1⟩
 ·exact⟨apx.T2.1,by refine(b.T2.U:K)<=7;exact I.BB.KX H H h2⟩
def c7.eZ{b:MB}{k:I}{ns:33e4}(apx:20e8){t:K}(x:7e3){l:0e0}(h:eJ 22e4 l)(s:(l.U:K)<=lm t):82 (226 l) k:=by
 rcases x with H|rfl|rfl
 ·have s:(l.U:K)<=6:=s;exact{apx with T0:=⟨h,by refine l.U<=6;lia⟩}
 ·have s:(l.U:K)<=4:=s;exact{apx with T1:=⟨h,by refine l.U<=4;lia⟩}
 ·have s:(l.U:K)<=7:=s;exact{apx with T2:=⟨h,by refine l.U<=7;lia⟩}
def N2{b:MB}{t:K}(s:7e3){oc:0e0}{en:V}{au apt:0e0}:ix (t.aI+2) b oc en au apt=149 (226 apt) au:=by rcases s with H|rfl|rfl<;>rfl
def Xa{b:MB}{t:K}(s:7e3):226 10e3=b:=by rcases s with H|rfl|rfl<;>rfl
def Xb{t:K}(s:7e3):G4 (t.aI+2):=by rcases s with H|rfl|rfl<;>(unfold G4;decide)
def Dj{b:MB}{au:0e0}{t:K}(x:7e3){S:0e0}{a n s:K}{t1 t2:al}{w:V}{T:0e1}(r:0<=a)(hs:0<=s)(e:0<=n)(k:s+n<=S.U)(h2:a+n<=(10e3).U)(p:106 n):mA av 30e6 (373 (226 (319 S))) 0e6 [.Z (t.aI+2),0e2,.ad S t1,.y s t2,0e3,w] T:=by
 have h:=C8 (d:=36) (b:=b) (oc:=4e2) (en:= 0e6) (au:=au) (t:=t1) (t2:=t2) (w:=w) (T:=T) (Xb x) r hs e k h2 p;rw[N2 x,N2 x,Xa x]at h;exact h
def amM{b:MB}{au:0e0}{t:K}(p:7e3){S:0e0}{a n:K}{t1 t2:al}{w:V}{T:0e1}(e:0<=a)(x:0<=n)(k:S.U=n.aI)(h2:a+n<=(10e3).U)(r:106 n):mA av 30e6 (373 (226 (204 10e3 S))) 0e6 [.Z (t.aI+2),0e2,.ad S t1,.y 0 t2,0e3,w] T:=by
 have h:=Dj (b:=b) (au:=au) (S:=S) (s:=0) (t1:=t1) (t2:=t2) (w:=w) (T:=T) p e (K.eC 0) x bM h2 r;rw[Di _ x k]at h;exact h
def wi{b:MB}{au:0e0}{t:K}(x:7e3){S:0e0}{a n s:K}{t1 t2:al}{w:V}{T:0e1}(h:¬(s+n<=S.U/\a+n<=(10e3).U)):mA av 30e6 30e6 w [.Z (t.aI+2),0e2,.ad S t1,.y s t2,0e3,w] T:=by
 have h:=wb (d:=36) (b:=b) (oc:=4e2) (en:= 0e6) (au:=au) (apt:=10e3) (t:=t1) (t2:=t2) (w:=w) (T:=T) (Xb x) h;rw[N2 x,Xa x]at h;exact h
def amN{d:I}{t s n:K}(e:7e3)(h0:0<=n)(h:s+n<=lm t):58 av (d+1) 478 [0e8,0e3,A7 t,16e9] (s+n):=by
 have x:=(wh e).2;rcases e with H|rfl|rfl
 ·exact NK h0 ⟨by exact K.dV h x,h⟩
 ·exact NK h0 ⟨by exact K.dV h x,h⟩
 ·exact akD h0 h
def amO{d:I}{t s n:K}(x:7e3)(h0:0<=n)(h:¬s+n<=lm t):cr av (d+1) 478 [0e8,0e3,A7 t,16e9] 0e6:=by
 rcases x with H|rfl|rfl
 ·exact NL h0 λq=>h q.2
 ·exact NL h0 λq=>h q.2
 ·exact akE h0 h
section
variable{mL:I->aps}{sh:Sh}{b b0:MB}{k:I}{ns:D (K×V)}{ts:D apv}{aC:D V}
def amP{t:K}(s:7e3){v:V}(r:30e4)(C:18 [38e2,1e1])(m:7e4)(h0:14e1)(n:76 [22e4]):48 [v]:=by
 show ij r λa x=>?_;by_cases h:a+1<=5e2
 ·obtain⟨v,e,r⟩:=W9 (52e3).1 x.1 (by exact K.amQ h);have p:ee [22e4] [v]:=⟨r,dZ⟩;exact 122 m ap p.eQ (ak8 av sh 1e2 k (k+1) _ t s a v) (129 (184 x.1 ap h) e 24e7) (λmL=>alV av 1e6 _ t s a v) (161 (fX (show¬5e2<=a by exact K.jV.bl h)) (24 e 24e7)) (n sh _ ns _ C.h3 5e3 C.apx.up p)
 ·exact 242 ap (λw=>rfl) (ak7 av sh 1e2 k (k+1) _ t s a 0e6) (245 ⟨x.1,ap,by refine 5e2<a+1;exact K.wj h⟩) (alU av 1e6 _ t s a 0e6) (161 (eE (show 5e2<=a by exact K.du.mp h)) a4)
def amR{t:K}(s:7e3){v w:V}(n:KV 22e4 w)(q:30e4)(C:18 [0 38,1e1])(r:7e4)(h0:14e1)(p:32e4):48 [w,v]:=by
 show ij q λa x=>?_;by_cases h:a+1<=5e2
 ·have hs:71 (33e1 t ((10e3).cM a.aI w)):=5e3;have e:82 (33e1 t ((10e3).cM a.aI w)) (k+1):=C.apx.up.eZ s ((52e3).1.cM n) (by rw[D.vK];exact(52e3).2);have hd:bJ (0<=a/\a<5e2)=true:=eE ⟨x.1,by exact K.amQ h⟩;exact fW C r ap hs e (λm=>rfl) (ala av sh 1e2 k (k+1) _ t s a w) (24 (184 x.1 ap h) hd) (λmL=>alX av 1e6 _ t s a w) (231 (fX (show¬5e2<=a by exact K.jV.bl h)) hd) 13e8 (p sh _ ns [] C.h3 hs e dZ)
 ·exact 242 ap (λm=>rfl) (ak9 av sh 1e2 k (k+1) _ t s a w) (245 ⟨x.1,ap,by refine 5e2<a+1;exact K.wj h⟩) (alW av 1e6 _ t s a w) (161 (eE (show 5e2<=a by exact K.du.mp h)) a4)
def amS{t:K}(s:7e3)(C:18 [48e8,1e1])(x:7e4)(e:76 [.x]):48 []:=by
 have h:ee [.x] [21e0]:=⟨19e7,dZ⟩;exact 122 x ap h.eQ (alb av sh 1e2 k (k+1) _ t s) (39 24e7) (λmL=>alY av 1e6 _ t s) (161 24e7 a4) (e sh _ ns _ C.h3 5e3 C.apx.up h)
def amT{t:K}(s:7e3){v w:V}(o:127 w)(c:KV 22e4 v)(C:18 [39e3,1e1])(u:7e4)(i:76 [.x]):48 [w,v]:=by
 show ij o λn x=>?_;have d:=(52e3).2;have e:=wh s;have l:((5e2).aK 1)=(10e3).U:=by rw[K.NI _ ap,K.ediv_one]
 by_cases h:5e2+n<=lm t
 ·have hs:71 (33e1 t (10e3++dM [v] n)):=5e3;have p:(dM [v] n).U=n.aI:=ze v n;have m:(((b.tb t)++dM [v] n).U:K)<=lm t:=by rw[D.hN];exact(Dh h e.2 x.1 p).2.2
  have q:82 (33e1 t (10e3++dM [v] n)) (k+1):=C.apx.up.eZ s ((52e3).1.lV (eJ.bq c)) m;have a:ee [.x] [21e0]:=⟨19e7,dZ⟩;have j:jM n=true:=W7 x.1 (Dh h e.2 x.1 p).1;have hm:a8 .f4 n 1=true:=al.tQ.bl (.aD (eE ap));have r:=λmL:4e8=>(by
   have r:=al0 av 1e6 (1e7++[(131,.X [39e3,1e1])]) t s n v
   rw[K.mul_one]at r
   rw[show((((aF (lw mL b)).tb t).U:K).aK 1)=5e2 from l]at r
   exact r:_)
  exact fW C u ap hs q a.eQ (ald av sh 1e2 k (k+1) _ t s n v) (ac (amN s x.1 h) (28 j (Dh h e.2 x.1 p).2.1 (W8 m e.2) 24e7)) r (161 H (84 (fX (show¬(lm t<5e2+n) by exact K.Az h)) hm (28 j (Dh h e.2 x.1 p).2.1 (W8 m e.2) 24e5))) 13e8 (i sh _ ns _ C.h3 hs q a)
 ·have a:ee [.x] [44e6]:=⟨19e7,dZ⟩;exact 122 u ap a.eQ (alc av sh 1e2 k (k+1) _ t s n v) (24 (amO s x.1 h) 24e5) (λmL=>alZ av 1e6 _ t s n v) (161 H (24 (eE (show(lm t<(5e2).aK 1+n) by rw[l];exact K.jV.mp h)) 24e5)) (i sh _ ns _ C.h3 5e3 C.apx.up a)
def amU{t:K}(e:7e3){v w x:V}(c:127 w)(app:KV 22e4 v)(d:127 x)(C:18 [33e9,1e1])(l:7e4)(h0:14e1)(o:32e4):48 [w,v,x]:=by
 show ij c λn r=>?_;show ij d λa h=>?_;have p:=(C.apx.tb e).2;have q:=wh e;by_cases s:a+n<=5e2
 ·have m:(dM [v] n).U=n.aI:=ze v n;have hs:71 (33e1 t (204 10e3 (dM [v] n))):=5e3;have i:82 (33e1 t (204 10e3 (dM [v] n))) (k+1):=406 e ((C.apx.tb e).1.bV (eJ.bq app)) (q7 _ _ h.1 r.1 s m) p;have j:jM n=true:=W7 r.1 (wf p q.2 h.1 s);have u:=λmL:4e8=>(by
   have u:=al2 av 1e6 (1e7++[(131,.X [33e9,1e1])]) t e n a v
   rw[Di _ r.1 m]at u
   exact u:_)
  exact fW C l ap hs i (λf=>rfl) (alf av sh 1e2 k (k+1) _ t e n a v) (28 (184 h.1 r.1 s) j (zd p q.2 h.1 s m) (Dg p q.2 h.1 r.1 s m)) u (λmL=>(28 (fX (show¬5e2<a+n by exact K.Az s)) j (zd p q.2 h.1 s m) (amM (b:=1e6) e h.1 r.1 m s (wf p q.2 h.1 s)))) 13e8 (o sh _ ns [] C.h3 hs i dZ)
 ·exact 242 ap (λf=>rfl) (ale av sh 1e2 k (k+1) _ t e n a v) (245 ⟨h.1,r.1,45e5⟩) (al1 av 1e6 _ t e n a v) (161 (eE 45e5) a4)
def amV{i:K}(s:16e0)(C:18 [48e9,6e5])(x:7e4)(e:32e4):48 []:=by
 have hs:71 ((1e2).fB i 0e6):=5e3;have h:82 ((1e2).fB i 0e6) (k+1):=by
  rcases s with H|rfl
  ·exact{C.apx.up with e0:= 2e6}
  ·exact{C.apx.up with e1:= 2e6}
 exact fW C x ap hs h (λa=>rfl) (m_edr av sh 1e2 k (k+1) _ i s) a4 (λmL=>al6 av 1e6 _ i s) 48e3 13e8 (e sh _ ns [] C.h3 hs h dZ)
universe e
def CP.Y(h:CP x app):ed x/\ed app/\kt app=kt x:=by
 rcases h with⟨H,H⟩|⟨H,H⟩|⟨H,H⟩|⟨H,H⟩|⟨H,H⟩<;>exact⟨by unfold ed;decide,by unfold ed;decide,H⟩
def amW(h:IN e t)(b:MB)(s:b.el e=v):b.fB e v=b:=by subst s;rcases h with⟨H,H⟩|⟨H,H⟩|⟨H,H⟩<;>rfl
def c7.el{k:I}{ns:33e4}(apx:20e8){e t:K}(h:IN e t):7e3/\(b.el e= 0e6\/∃l,b.el e= 6 l/\eJ 22e4 l/\l.U<=4/\0<l.U):=by
 have h0:b.e0= 0e6\/∃l,b.e0= 6 l/\eJ .rf l/\l.U<=4/\0<l.U:=apx.e0.f5 id (by rintro⟨l,a,c,d⟩;exact⟨l,a,c,by exact I.hZ d,by exact I.N3 d⟩);have h1:b.e1= 0e6\/∃l,b.e1= 6 l/\eJ .rx l/\l.U<=4/\0<l.U:=apx.e1.f5 id (by rintro⟨l,a,c,d⟩;exact⟨l,a,c,bM,by exact I.N3 d⟩);rcases h with⟨H,H⟩|⟨H,H⟩|⟨H,H⟩
 ·exact⟨by unfold ed;decide,h0⟩
 ·exact⟨by unfold ed;decide,h0⟩
 ·exact⟨by unfold ed;decide,h1⟩
section
variable{mL:I->aps}{sh:Sh}{b b0:MB}{k:I}{ns:D (K×V)}{ts:D apv}{aC:D V}
def amX(p:CP x app)(R:127 u)(P:30e4)(apq:127 w)(C:18 [28e7,0 x,17e1])(V:7e4)(h0:14e1)(apA:32e4):48 [u,v,w]:=by
 show ij R λn e=>?_;show ij P λs hs=>?_;show ij apq λa m=>?_;obtain⟨q,c,g⟩:=CP.Y p;have j:=(C.apx.tb q).2;have W:=(C.apx.tb c).2;have l:=wh q;have apw:=wh c;have o:(18e5).U<=16777216:=bM;by_cases i:s+n<=50e9
 ·have d:=(mO 18e5 hs.1 e.1 i).2;by_cases r:a+n<=54e9
  ·have t:71 (33e1 x (234 (b.tb x) 18e5)):=5e3;have f:82 (33e1 x (234 (b.tb x) 18e5)) (k+1):=406 q ((C.apx.tb q).1.bV (g▸(C.apx.tb c).1.pS)) (q7 _ _ m.1 e.1 r d) j;exact fW C V ap t f (λz=>rfl) (ali av sh 1e2 k (k+1) _ x app p n s a) (28 (249 e.1 i) (184 m.1 e.1 r) (zd j l.2 m.1 r d) (Dg j l.2 m.1 e.1 r d)) (λmL=>al3 av 1e6 _ x app p n s a) (231 o (Dj (b:=1e6) (S:=18e5) q m.1 hs.1 e.1 i r (wf j l.2 m.1 r))) 13e8 (apA sh _ ns [] C.h3 t f dZ)
  ·exact 242 ap (λz=>rfl) (alh av sh 1e2 k (k+1) _ x app p n s a) (24 (249 e.1 i) (kq ⟨m.1,e.1,show 54e9<a+n by exact K.wj r⟩)) (WM av 1e6 _ x app p n s a) (231 o (370 18e5 q (r h.2)))
 ·exact 242 ap (λz=>rfl) (alg av sh 1e2 k (k+1) _ x app p n s a) (245 ⟨hs.1,e.1,show 50e9<s+n by exact K.wj i⟩) (WM av 1e6 _ x app p n s a) (231 o (370 18e5 q (i h.1)))
def amY(m:IN e t)(E:127 u)(apr:30e4)(x:127 w)(C:18 [8e7,11e5,1e1])(B:7e4)(h0:14e1)(A:32e4):48 [u,v,w]:=by
 show ij E λn r=>?_;show ij apr λs hs=>?_;show ij x λa q=>?_;obtain⟨i,apx⟩:=C.apx.el m;have d:=(C.apx.tb i).2;have z:=wh i;have c:∀(apq:MB) {v:V},apq.el e=v->apq.fB e v=apq:=λapq v h=>amW m apq h;rcases apx with o|⟨l,o,apA,apE,apu⟩
 ·have apE:(27e2).U=0:=H;clear apE;have apA:eJ 22e4 27e2:=λg h=>nomatch h;have f:=c 1e2 o;by_cases j:s+n<=(([]:D V).U:K)
  ·have app:=(mO 27e2 hs.1 r.1 j).2;by_cases p:a+n<=5e2
   ·have R:71 (33e1 t 49e9):=5e3;have P:82 (33e1 t 49e9) (k+1):=406 i ((C.apx.tb i).1.bV apA.pS) (q7 _ _ q.1 r.1 p app) d;have hm:=m_tinn2 av sh 1e2 k (k+1) (32 [8e7,11e5,1e1]) e t m n s a;rw[f]at hm;have x:=λmL:4e8=>(by
     have x:=al5 av 1e6 (1e7++[(131,.X [8e7,11e5,1e1])]) e t m n s a
     rw[c 1e6 o]at x
     exact x:_)
    exact fW C B ap R P 45e2 hm (28 (249 r.1 j) (184 q.1 r.1 p) (zd d z.2 q.1 p app) (Dg d z.2 q.1 r.1 p app)) x (λmL=>((39 (Dj (b:=1e6) (S:=27e2) i q.1 hs.1 r.1 j p (wf d z.2 q.1 p))))) 13e8 (A sh _ ns [] C.h3 R P dZ)
   ·have hm:=m_tinn1 av sh 1e2 k (k+1) (32 [8e7,11e5,1e1]) e t m n s a;rw[f]at hm;have x:=λmL:4e8=>(by
     have x:=WO av 1e6 (1e7++[(131,.X [8e7,11e5,1e1])]) e t m n s a
     rw[c 1e6 o]at x
     exact x:_)
    exact je C ap 5e3 C.apx.up h0 45e2 hm (24 (249 r.1 j) (kq ⟨q.1,r.1,show 5e2<a+n from K.jV.mp p⟩)) x (λmL=>((39 (370 27e2 i (p h.2))))) 13e8 ar
  ·have apD:(([]:D V).U:K)<s+n:=bM;have hm:=m_tinn0 av sh 1e2 k (k+1) (32 [8e7,11e5,1e1]) e t m n s a;rw[f]at hm;have x:=λmL:4e8=>(by
    have x:=WO av 1e6 (1e7++[(131,.X [8e7,11e5,1e1])]) e t m n s a
    rw[c 1e6 o]at x
    exact x:_)
   exact je C ap 5e3 C.apx.up h0 45e2 hm (245 ⟨hs.1,r.1,apD⟩) x (λmL=>((39 (370 27e2 i (j h.1))))) 13e8 ar
 ·have apw:(!l.jL)=true:=by cases l with|aQ=>exact bL apu ap|aP _ _=>rfl
  have W:l.U<=16777216:=bM;have f:=c 1e2 o;by_cases j:s+n<=(l.U:K)
  ·have app:=(mO l hs.1 r.1 j).2;by_cases p:a+n<=5e2
   ·have R:71 (33e1 t (319 l)):=5e3;have P:82 (33e1 t (319 l)) (k+1):=406 i ((C.apx.tb i).1.bV apA.pS) (q7 _ _ q.1 r.1 p app) d;clear apA;have hm:=m_tinb2 av sh 1e2 k (k+1) (32 [8e7,11e5,1e1]) e t m n s a l;rw[f]at hm;have x:=λmL:4e8=>(by
     have x:=al4 av 1e6 (1e7++[(131,.X [8e7,11e5,1e1])]) e t m n s a l
     rw[c 1e6 o]at x
     exact x:_)
    exact fW C B ap R P 45e2 hm (28 (249 r.1 j) (184 q.1 r.1 p) (zd d z.2 q.1 p app) (Dg d z.2 q.1 r.1 p app)) x (161 apw (24 W (Dj (b:=1e6) (S:=l) i q.1 hs.1 r.1 j p (wf d z.2 q.1 p)))) 13e8 (A sh _ ns [] C.h3 R P dZ)
   ·have hm:=alk av sh 1e2 k (k+1) (32 [8e7,11e5,1e1]) e t m n s a l;rw[f]at hm;have x:=λmL:4e8=>(by
     have x:=WN av 1e6 (1e7++[(131,.X [8e7,11e5,1e1])]) e t m n s a l
     rw[c 1e6 o]at x
     exact x:_)
    exact je C ap 5e3 C.apx.up h0 45e2 hm (24 (249 r.1 j) (kq ⟨q.1,r.1,show 5e2<a+n from K.jV.mp p⟩)) x (161 apw (24 W (370 l i (p h.2)))) 13e8 ar
  ·have apD:(l.U:K)<s+n:=bM;have hm:=alj av sh 1e2 k (k+1) (32 [8e7,11e5,1e1]) e t m n s a l;rw[f]at hm;have x:=λmL:4e8=>(by
    have x:=WN av 1e6 (1e7++[(131,.X [8e7,11e5,1e1])]) e t m n s a l
    rw[c 1e6 o]at x
    exact x:_)
   clear o;exact je C ap 5e3 C.apx.up h0 45e2 hm (245 ⟨hs.1,r.1,apD⟩) x (161 apw (24 W (370 l i (j h.1)))) 13e8 ar
universe e
def N4{α β:Type}(f:α->β)(l:8e4)(x app:8e5):(176 l).aj f=176 (l.aj f):=by
 simp only[bD,D.map_take,D.VG,D.fq]
def zf{α β:Type}(f:α->β)(l m:8e4)(x app:8e5):(bV l x app m).aj f=bV (l.aj f) x app (m.aj f):=by
 simp only[bV,D.sz,D.map_take,D.VG,D.fq]
def amZ{α β:Type}(f:α->β)(v:α)(n:K):(dM [v] n).aj f=dM [f v] n:=by
 rw[wg,wg,D.Dk]
def N5(i:K)(h:0<=i/\i<256):bA 48e1= 14e8:=by
 unfold bA;have:(48e1).aI=i.aI:=by rw[bd.toNat_ofNat'];exact I.mod_eq_of_lt ((K.C0 h.1).bl h.2)
 rw[a9];have h2:(i.aI:K)=i:=K.uj h.1;rw[h2]
def am0{b:MB}{oc au:0e0}(x:oc.aj dE=(4e2).aj dE){b0:MB}{ex:0e1}:gb 51 (87 b oc au) 30e6 (b1 b0++ex) (b1 b0) 39e7:=by
 show⟨⟨λi o e=>?_,λi h=>?_,λi j s s h=>h,λk v e=>⟨v,wa e,by rw[n5]⟩⟩,λi s=>rfl,I.hZ (uu ..).bh⟩
 ·rw[ur];match i,e with
  |0,e=>exact⟨o,e,H⟩
  |1,e=>
   have e2:aps.ay 4e2 true=o:=11e6;subst e2;show⟨37 oc,H,?_⟩;simp only[eI,yV,x]
  |i+2,e=>exact⟨o,e,H⟩
 ·exact h
def am1{b b':MB}(x:n9 b')(a:21 b.B b.B)(e1:b'.B=b.B)(e2:b'.apr=b.apr){k:I}{c:K}{aC:0e0}(w:c∈jQ)(s:b.B[k]? =G (.X (1e5::aC))){oc au b6:0e0}(n:oc.aj dE=(36e3).aj dE)(e:21 oc oc)(hs:21 b6 b6){o:2e1}{b9:6e1}{bH:fj}
  (dh:290 1e2 (1e5::aC) au (1e7++[(131,.X (1e5::aC))]) o=201 b' oc b6 (1e7++[(131,.X (1e5::aC))]) b9) (q1:13e1) (IH:LC b' (k+1) b6 bH):LC b k au bH:=by
 have hd:=y9 x a s e (λv=>rfl) hs (λv=>rfl) dh q1;have m:b1 b'=1e7:=by unfold b1;rw[e1,e2]
 have r:=v8 (a3:= 24e4) (f:=λi=>i) (fL:=ad b' 0e6 b6) (gc:=1e7) (QQ av b b' oc au b6 aC c w) (λp h=>by rw[D.cY]at h;exact h▸hd) (am0 n (b0:=b));show yY (NX s) (NY b _ _) r ?_;unfold LC at IH;rw[e1,m]at IH;exact IH
def N6{l m:I}{a n:K}(x:l=16\/l=32)(b:0<=a)(p:0<=n)(h:a+n<=(l:K))(hm:m=n.aI):l+m<=16777216:=
 have r:m<=l:=hm▸K.qw.bl (K.dV (K.NZ b) h)
 have s:l<=32:=by rcases x with e|e<;>rw[e]<;>decide
 I.dV (I.BF s (I.dV r s)) ap
def N7{l:I}{a n:K}(s:l=16\/l=32)(x:0<=a)(h:a+n<=(l:K)):106 n:=
 K.dV (K.dV (K.NZ x) h) (by rcases s with e|e<;>rw[e]<;>decide)
def am2{l:I}{Q n:K}(s:Q=1/\l=16\/Q=2/\l=32)(h0:0<=n)(h:Q+n<=2):(l+(n*16).aI=16\/l+(n*16).aI=32)/\jM (n*16)=true/\Q+n<=3/\(0<=n*16/\n*16<=16777216)/\l+(n*16).aI<=16777216/\(n*16).aI<=16777216:=by
 rcases s with⟨H,H⟩|⟨H,H⟩
 ·have:n=0\/n=1:=bM;rcases a9 with H|rfl<;>decide
 ·have:n=0:=bM;subst a9;decide
section
variable{mL:I->aps}{sh:Sh}{b b0:MB}{k:I}{ns:D (K×V)}{ts:D apv}{aC:D V}
def am3{b':MB}{x:33e4}{au b6:0e0}{c:K}{r:0e0}{o:2e1}{o2:4e8->2e1}{b9:6e1}{s:4e8->6e1}{oc:4e8->0e0}(C:18 (1e5::r))(a:7e4)(n:c∈jQ)(hs:35e1)(e:c7 b' (k+1) x)(m:21 b6 b6)
  (dh:302 (k+1) (1e5::r) au (1e5::r) o=d9 (bZ sh b' (k+1) b6) (32 (1e5::r)) b9) (ho:13e1)
  (l7:∀mL,290 1e6 (1e5::r) au (1e7++[(131,.X (1e5::r))]) (o2 mL)=201 23e4 33e2 b6 (1e7++[(131,.X (1e5::r))]) (s mL)) (l8:∀mL,∀p∈s mL,p) (q6:∀mL,(33e2).aj dE=(36e3).aj dE) (hof:∀mL,∀f,bP f 33e2=33e2)
  (IH:apF mL b0 sh b' (k+1) b6):32e3:=
 zb hs (λapu h=>Wx dh ho C.at (zc hs a) h) (λmL hL bH h=>am1 (b:=14e0) (b':=23e4) (e.og hL) C.apx.B.1 hs.2.1 hs.2.2.2 n C.hr (q6 mL) (hof mL) m (l7 mL) (l8 mL) h) IH
def am4(C:18 [0 63])(r:7e4)(p:76 [.x]):48 []:=by
 have a:=C.apx.aN;have e:ee [.x] [2 ((10e2).aK 16)]:=⟨19e7,dZ⟩;have x:=λmL:4e8=>(by
  have x:=alL av 1e6 (1e7++[(131,.X [0 63])])
  rw[D.dY,D.fq]at x
  exact x:_)
 have s:15 10e2 16=true:=H;have hd:bJ ((2:K)<((10e2).aK 16)+0)=false:=by rcases a with h|h<;>rw[h]<;>decide
 exact 122 r ap e.eQ (akS av sh 1e2 k (k+1) _) (24 s (by exact I.cy s)) x (λmL=>(28 s hd (show b.aN.U<=16777216 by lia) (by exact I.cy s))) (p sh _ ns _ C.h3 5e3 C.apx.up e)
def am5{v:V}(c:30e4)(C:18 [17e2])(l:7e4)(u:76 [.x]):48 [v]:=by
 show ij c λn r=>?_;have z:=C.apx.aN;have a:15 10e2 16=true:=H;have j:(10e2).aK 16=1/\b.aN.U=16\/(10e2).aK 16=2/\b.aN.U=32:=by rcases z with h|h<;>rw[h]<;>decide
 generalize p:(b.aN.U:K).aK 16=Q at j;have fP:a8 .f4 n 16=true:=al.tQ.bl (.aD (eE ap));have w:((aF b).aN.U:K).aK 16=Q:=p;by_cases x:Q+n<=2
 ·show zr (am2 j r.1 x) λt o a3 d i app=>?_;have hm:=akU av sh 1e2 k (k+1) (32 [17e2]) n;have s:=λmL:4e8=>(by
   have s:=alN av 1e6 (1e7++[(131,.X [17e2])]) n
   rw[D.fq]at s
   rw[show((aF (lw mL b)).aN.U:K).aK 16=Q from p]at s
   exact s:_)
  rw[w]at hm;have q:(412 (n*16)).U=(n*16).aI:=ze _ _;have hs:71 {aF b with aN:=b.aN++D.gi (n*16).aI (0:bd)}:=5e3;have m:82 {aF b with aN:=b.aN++D.gi (n*16).aI (0:bd)} (k+1):={C.apx.up with aN:=by refine(b.aN++D.gi (n*16).aI (0:bd)).U=16\/(b.aN++D.gi (n*16).aI (0:bd)).U=32;rw[D.hN,D.Cy];exact t};have e:ee [.x] [2 Q]:=⟨19e7,dZ⟩;exact am3 C l ap hs m e.eQ hm (84 a (NK r.1 (show Q+n<=3/\Q+n<=2 from⟨a3,x⟩)) (28 fP (eE d) (show b.aN.U+(D.gi (n*16).aI (0:bd)).U<=16777216 by rw[D.Cy];exact i) 24e5)) s (161 a (84 (125 x) fP (28 o (by rw[q];exact app) (by rw[D.hN,q,D.fq];exact i) 24e5)))
   (λmL=>(by
     refine(4e2++dM [V.y 0 false] (n*16)).aj dE=((b.aN++D.gi (n*16).aI (0:bd)).aj bA).aj dE
     rw[wg,D.sz,D.sz,D.sz,D.Dk,D.Dk,D.Dk]
     rfl))
   (λmL=>(λf=>by rw[wg,lE,D.sz,D.Dk,<-lE,oa];rfl)) (u sh _ ns _ C.h3 hs m e)
 ·have hm:=akT av sh 1e2 k (k+1) (32 [17e2]) n;have s:=λmL:4e8=>(by
   have s:=alM av 1e6 (1e7++[(131,.X [17e2])]) n
   rw[D.fq]at s
   rw[show((aF (lw mL b)).aN.U:K).aK 16=Q from p]at s
   exact s:_)
  rw[w]at hm;have e:ee [.x] [44e6]:=⟨19e7,dZ⟩;exact 122 l ap e.eQ hm (129 a (NL r.1 (λh=>x h.2)) 24e5) s (161 a (24 (eE (K.jV.mp x)) 24e5)) (u sh _ ns _ C.h3 5e3 C.apx.up e)
def am6{u v w:V}(d:127 u)(t:30e4)(f:127 w)(C:18 [20e9])(o:7e4)(h0:14e1)(c:32e4):48 [u,v,w]:=by
 show ij d λn x=>?_;show ij t λs hs=>?_;show ij f λa r=>?_;have m:=C.apx.aN;have hL:(4e2).U=b.aN.U:=D.fq ..;by_cases p:s+n<=10e2
 ·have l:=(mO b.aN hs.1 x.1 p).2;by_cases e:a+n<=10e2
  ·have i:71 (365 b.aN):=5e3;have app:=q7 b.aN _ r.1 x.1 e l;have q:82 (365 b.aN) (k+1):=(387 (212 b.aN) (212 b.aN).U app m);exact fW C o ap i q (λj=>rfl) (akZ av sh 1e2 k (k+1) _ n s a) (129 (249 x.1 p) (184 r.1 x.1 e) (N6 m r.1 x.1 e l)) (λmL=>alQ av 1e6 _ n s a) (161 (aly (b:=1e6) (oc:=[]) (en:= 0e6) (au:=[]) (apt:=4e2) r.1 hs.1 x.1 (390 p) (390 e) (N7 m r.1 e)) a4)
    (λmL=>(by refine 246 4e2=(212 b.aN).aj bA;rw[zf,N4])) (c sh _ ns [] C.h3 i q dZ)
  ·exact 242 ap (λj=>rfl) (akY av sh 1e2 k (k+1) _ n s a) (24 (249 x.1 p) (kq ⟨r.1,x.1,show 10e2<a+n by exact K.wj e⟩)) (WJ av 1e6 _ n s a) (161 (WH (b:=1e6) (oc:=[]) (en:= 0e6) (au:=[]) (apt:=4e2) (λh=>e (hL▸h.2))) a4)
 ·exact 242 ap (λj=>rfl) (akX av sh 1e2 k (k+1) _ n s a) (245 ⟨hs.1,x.1,show 10e2<s+n by exact K.wj p⟩) (WJ av 1e6 _ n s a) (161 (WH (b:=1e6) (oc:=[]) (en:= 0e6) (au:=[]) (apt:=4e2) (λh=>p (hL▸h.1))) a4)
def am7{u v w:V}(d:KV .s8 u)(t:30e4)(P:127 w)(C:18 [16e1])(apw:7e4)(h0:14e1)(apq:32e4):48 [u,v,w]:=by
 (show aM d λn apE e=>?_;try clear d;subst apE);show ij t λs hs=>?_;show ij P λa m=>?_;have W:=C.apx.aN;have hL:(4e2).U=b.aN.U:=D.fq ..;have R:339 s=s % 256:=y4 s;have f:s.ah 256=s % 256:=l9 s ap;have hr:0<=s % 256/\s % 256<256:=⟨K.nh _ ap,K.n8 _ ap⟩;have fP:9 s 256=true:=H;have p:∀x:V,(dM [x] n).U=n.aI:=λx=>ze x n;by_cases j:a+n<=10e2
 ·have l:jM n=true:=by simp only[jM,al.lb,mW];lia
  have z:(dM [42e2] n).U=n.aI:=ze _ n;have apA:=q7 b.aN _ m.1 e.1 j z;have c:71 {aF b with aN:=204 b.aN (dM [42e2] n)}:=5e3;have o:82 {aF b with aN:=204 b.aN (dM [42e2] n)} (k+1):=(387 (204 b.aN (dM [42e2] n)) (204 b.aN (dM [42e2] n)).U apA W);have hm:=akW av sh 1e2 k (k+1) (32 [16e1]) n s a;rw[R]at hm;have r:=λmL:4e8=>(by
   have r:=alP av 1e6 (1e7++[(131,.X [16e1])]) n s a
   rw[f,Di _ e.1 (p _)]at r
   exact r:_)
  have q:=λmL:4e8=>(by
   have q:= @C8 36 1 (by unfold G4;decide) 1e6 4e2 0e6 [] 4e2 (dM [2 (s % 256)] n) a n 0 true false 2e7 [(98,6e3),(131,.X [16e1]),(132,10e6),(6,16e1),(113,8 [13e4,13e5,13e6]),(9,0e3),(139,0e8),(42,0e2),(137,6 (dM [2 (s % 256)] n)),(49,0e7)] m.1 (K.eC 0) e.1 54e2 (390 j) bM
   rw[Di _ e.1 (p _)]at q
   exact q:_)
  have apD:([s % 256].dI (291 (i<256)))=true:=by
   simp only[D.tc,D.all_nil,al.td,al.lb,mW];exact hr
  have A:xt [42e2] n=true:=by
   simp only[xt,al.lb,mW];exact⟨⟨(238 bM),bM⟩,H⟩
  exact fW C apw ap c o (λapp=>rfl) hm (28 (184 m.1 e.1 j) apD A (show b.aN.U+(dM [42e2] n).U<=_ by lia)) r (λmL=>(28 fP l 54e2 (q mL)))
   (λmL=>(by refine 204 4e2 (dM [2 (s % 256)] n)=(204 b.aN (dM [42e2] n)).aj bA;rw[zf,amZ,N5 _ hr])) (apq sh _ ns [] C.h3 c o dZ)
 ·have l:jM n=true:=by simp only[jM,al.lb,mW];lia
  have r:=λmL:4e8=>alO av 1e6 (1e7++[(131,.X [16e1])]) n s a;exact je C ap 5e3 C.apx.up h0 (λapp=>rfl) (akV av sh 1e2 k (k+1) _ n s a) (245 ⟨m.1,e.1,show 10e2<a+n by lia⟩) r (λmL=>(28 fP l 54e2 (wb (g:=1) (b:=1e6) (oc:=4e2) (en:= 0e6) (au:=[]) (apt:=4e2) (S:=dM [2 (s.ah 256)] n) (by unfold G4;decide) (λh=>j (hL▸h.2))))) 13e8 ar
def sE{i:K}(h:16e0)(b:MB){v:V}(s:b.dl i=v):b.fI i v=b:=by subst s;rcases h with H|rfl<;>rfl
def c7.dl(apx:20e8){i:K}(h:16e0):b.dl i= 0e6\/∃l,b.dl i= .cg l/\l.U<=8/\0<l.U:=by
 have h0:b.d0= 0e6\/∃l,b.d0= .cg l/\l.U<=8/\0<l.U:=apx.d0.f5 id (by rintro⟨l,a,c⟩;exact⟨l,a,by exact I.hZ c,by exact I.N3 c⟩);have h1:b.d1= 0e6\/∃l,b.d1= .cg l/\l.U<=8/\0<l.U:=apx.d1.f5 id (by rintro⟨l,a,c⟩;exact⟨l,a,bM,by exact I.N3 c⟩);rcases h with H|rfl
 ·exact h0
 ·exact h1
def am8{i:K}(e:16e0){u v w:V}(apD:127 u)(W:30e4)(x:127 w)(C:18 [8e6,6e5])(apA:7e4)(h0:14e1)(apq:32e4):48 [u,v,w]:=by
 show ij apD λn r=>?_;show ij W λs hs=>?_;show ij x λa m=>?_;have c:=C.apx.aN;have hL:(4e2).U=b.aN.U:=D.fq ..;rcases C.apx.dl e with hd|⟨l,hd,R,apE⟩
 ·have R:([]:4e9).U=0:=H;clear R;have apw:(27e2).U=0:=H;have j:=sE e 1e2 hd;by_cases q:s+n<=(([]:D bd).U:K)
  ·have app:=(mO ([]:4e9) hs.1 r.1 q).2;have o:s+n<=(([]:D V).U:K):=by exact K.le_def.bl q
   by_cases p:a+n<=10e2
   ·have P:=q7 b.aN _ m.1 r.1 p app;have f:71 (365 ([]:4e9)):=5e3;have d:82 (365 ([]:4e9)) (k+1):=(387 (212 ([]:4e9)) (212 ([]:4e9)).U P c);have hm:=ak5 av sh 1e2 k (k+1) (32 [8e6,6e5]) i e n s a;rw[j]at hm;have x:=λmL:4e8=>(by
     have x:=alS av 1e6 (1e7++[(131,.X [8e6,6e5])]) i e n s a
     rw[sE e 1e6 hd]at x
     exact x:_)
    exact fW C apA ap f d 48e4 hm (129 (249 r.1 q) (184 m.1 r.1 p) (N6 c m.1 r.1 p app)) x (λmL=>((39 (C8 (g:=1) (b:=1e6) (oc:=4e2) (en:= 0e6) (au:=[]) (apt:=4e2) (S:=[]) (by unfold G4;decide) m.1 hs.1 r.1 o (390 p) (N7 c m.1 p)))))
     (λmL=>(by refine 246 27e2=(212 ([]:4e9)).aj bA;rw[zf,N4];rfl)) (apq sh _ ns [] C.h3 f d dZ)
   ·have hm:=ak4 av sh 1e2 k (k+1) (32 [8e6,6e5]) i e n s a;rw[j]at hm;have x:=λmL:4e8=>(by
     have x:=WL av 1e6 (1e7++[(131,.X [8e6,6e5])]) i e n s a
     rw[sE e 1e6 hd]at x
     exact x:_)
    exact je C ap 5e3 C.apx.up h0 48e4 hm (24 (249 r.1 q) (kq ⟨m.1,r.1,show 10e2<a+n from K.jV.mp p⟩)) x (λmL=>((39 (wb (g:=1) (b:=1e6) (oc:=4e2) (en:= 0e6) (au:=[]) (apt:=4e2) (S:=[]) (by unfold G4;decide) (λh=>p (hL▸h.2)))))) 13e8 ar
  ·have o:(([]:D bd).U:K)<s+n:=bM;have hm:=ak3 av sh 1e2 k (k+1) (32 [8e6,6e5]) i e n s a;rw[j]at hm;have x:=λmL:4e8=>(by
    have x:=WL av 1e6 (1e7++[(131,.X [8e6,6e5])]) i e n s a
    rw[sE e 1e6 hd]at x
    exact x:_)
   exact je C ap 5e3 C.apx.up h0 48e4 hm (245 ⟨hs.1,r.1,o⟩) x (λmL=>((39 (425 1 4e2 0e6 [] 4e2 [])))) 13e8 ar
 ·have z:(!l.jL)=true:=by cases l with|aQ=>exact bL apE ap|aP _ _=>rfl
  have apw:(l.aj bA).U=l.U:=D.fq ..;have j:=sE e 1e2 hd;by_cases q:s+n<=(l.U:K)
  ·have app:=(mO l hs.1 r.1 q).2;have o:s+n<=((l.aj bA).U:K):=bM;by_cases p:a+n<=10e2
   ·have P:=q7 b.aN _ m.1 r.1 p app;have f:71 (365 l):=5e3;have d:82 (365 l) (k+1):=(387 (212 l) (212 l).U P c);have hm:=ak2 av sh 1e2 k (k+1) (32 [8e6,6e5]) i e n s a l;rw[j]at hm;have x:=λmL:4e8=>(by
     have x:=alR av 1e6 (1e7++[(131,.X [8e6,6e5])]) i e n s a l
     rw[sE e 1e6 hd]at x
     exact x:_)
    exact fW C apA ap f d 48e4 hm (129 (249 r.1 q) (184 m.1 r.1 p) (N6 c m.1 r.1 p app)) x (231 z (C8 (g:=1) (b:=1e6) (oc:=4e2) (en:= 0e6) (au:=[]) (apt:=4e2) (S:=(l.aj bA)) (by unfold G4;decide) m.1 hs.1 r.1 o (390 p) (N7 c m.1 p)))
     (λmL=>(by refine 246 (l.aj bA)=(212 l).aj bA;rw[zf,N4])) (apq sh _ ns [] C.h3 f d dZ)
   ·have hm:=ak1 av sh 1e2 k (k+1) (32 [8e6,6e5]) i e n s a l;rw[j]at hm;have x:=λmL:4e8=>(by
     have x:=WK av 1e6 (1e7++[(131,.X [8e6,6e5])]) i e n s a l
     rw[sE e 1e6 hd]at x
     exact x:_)
    exact je C ap 5e3 C.apx.up h0 48e4 hm (24 (249 r.1 q) (kq ⟨m.1,r.1,show 10e2<a+n from K.jV.mp p⟩)) x (231 z (wb (g:=1) (b:=1e6) (oc:=4e2) (en:= 0e6) (au:=[]) (apt:=4e2) (S:=(l.aj bA)) (by unfold G4;decide) (λh=>p (hL▸h.2)))) 13e8 ar
  ·have o:(l.U:K)<s+n:=bM;have hm:=ak0 av sh 1e2 k (k+1) (32 [8e6,6e5]) i e n s a l;rw[j]at hm;have x:=λmL:4e8=>(by
    have x:=WK av 1e6 (1e7++[(131,.X [8e6,6e5])]) i e n s a l
    rw[sE e 1e6 hd]at x
    exact x:_)
   clear hd;exact je C ap 5e3 C.apx.up h0 48e4 hm (245 ⟨hs.1,r.1,o⟩) x (231 z (425 1 4e2 0e6 [] 4e2 (l.aj bA))) 13e8 ar
def am9{i:K}(s:16e0)(C:18 [48e7,6e5])(x:7e4)(e:32e4):48 []:=by
 have hs:71 ((1e2).fI i 0e6):=5e3;have h:82 ((1e2).fI i 0e6) (k+1):=by
  rcases s with H|rfl
  ·exact{C.apx.up with d0:= 2e6}
  ·exact{C.apx.up with d1:= 2e6}
 exact fW C x ap hs h (λa=>rfl) (ak6 av sh 1e2 k (k+1) _ i s) a4 (λmL=>alT av 1e6 _ i s) 48e3 13e8 (e sh _ ns [] C.h3 hs h dZ)
universe e
def ana(m:4e9){a n j:K}(h0:0<=a)(e:0<=j)(x:j<n)(h:a+n<=m.U):dm (m.aj bA) (a+j)=((50 m a (a+n))[j.aI]?).aj bA:=by
 (show oE (K.N0 h0) λi s=>?_;subst s);(show oE (K.N0 e) λj s=>?_;subst s);rw[(mO m h0 bM h).1];refine(m.aj bA)[i+j]? =_;rw[D.nX];refine _=((((m.fh i).fG n.aI)[j]?).aj bA);rw[D.NC (by exact K.NG.bl x),D.V9]
def sF{α:Type}{C:8e4->Prop}{n:I}{l:8e4}(h:l.U=n+1)(g:∀x m,m.U=n->C (x::m)):C l:=by
 cases l with
 |aQ=>exact nomatch h
 |aP x m=>exact g x m (I.hH.cE h)
@[elab_as_elim] def N8 {α:Type} {C:D α->Prop} {l:D α} (h:l.U=1) (g:∀s,C [s]):C l:=sF h λx m h=>by cases D.eq_nil_of_length_eq_zero h;exact g x
@[elab_as_elim] def N9 {α:Type} {C:D α->Prop} {l:D α} (h:l.U=2) (g:∀e s,C [e,s]):C l:=sF h λx m h=>N8 (C:=λm=>C (x::m)) h (g x)
@[elab_as_elim] def Oa {α:Type} {C:D α->Prop} {l:D α} (h:l.U=4) (g:∀a s b e,C [a,s,b,e]):C l:=sF h λx m h=>sF (C:=λm=>C (x::m)) h λapp m h=>N9 (C:=λm=>C (x::app::m)) h (g x app)
@[elab_as_elim] def Xc {α:Type} {C:D α->Prop} {l:D α} (h:l.U=8) (g:∀k s p b n r e a,C [k,s,p,b,n,r,e,a]):C l:=sF h λx m h=>sF (C:=λm=>C (x::m)) h λapp m h=>sF (C:=λm=>C (x::app::m)) h λz m h=>sF (C:=λm=>C (x::app::z::m)) h λw m h=>Oa (C:=λm=>C (x::app::z::w::m)) h (g x app z w)
def anb(l:4e9):0<=gk l/\gk l<256^l.U:=by
 induction l with
 |aQ=>exact⟨K.eC 0,ap⟩
 |aP x l ih=>
  have h:=x.C0;rw[D.m6,K.pow_succ];unfold gk;generalize(256:K)^l.U=p at ih;lia
def anc(x:bd)(m:K):a8 .f4 25e6 m=true:=by
 exact al.tQ.bl (.a2 (eE (show x.aI<_ from I.yr x.C0 ap)))
def ane(v apB i:K)(P:K)(x:0<=v)(e:0<=apB)(s:0<=P)(h:v % apB/P % 256=v/P % 256):bA (279 (339 ((v % apB).aK P)))= 38 (v.aK P) 256:=by
 rw[y4,N5 _ ⟨K.nh _ ap,K.n8 _ ap⟩,l9 _ ap,K.NI _ s,K.NI _ s,h]
def anf{b:MB}{a n:K}{r:4e9}{vs:0e0}(e:0<=a)(x:0<=n)(h:a+n<=b.aN.U)(hr:r.U=n.aI)(p:r.aj bA=vs):mv 4e2 a.aI vs=(204 b.aN r).aj bA:=by
 subst p;have s:(4e2).U=b.aN.U:=D.fq ..;rw[WA _ _ _ (by rw[s];exact WF e h x (by rw[D.fq,hr])),zf,NV _ _ e x (by rw[s];exact h) (by rw[D.fq,hr])]
def Dl{l m:6e1}(h:∀p∈l,p)(h2:∀p∈m,p):∀p∈l++m,p:=λp s=>(300 s) (h p) (h2 p)
def LU.Y(h:LU c n):kd n/\c∈jQ:=by
 rcases h with⟨H,H⟩|⟨H,H⟩|⟨H,H⟩|⟨H,H⟩|⟨H,H⟩|⟨H,H⟩|⟨H,H⟩<;>exact⟨by unfold kd;decide,ap⟩
def ST.Y(h:ST c n):kd n/\c∈jQ:=by
 rcases h with⟨H,H⟩|⟨H,H⟩|⟨H,H⟩|⟨H,H⟩|⟨H,H⟩|⟨H,H⟩|⟨H,H⟩<;>exact⟨by unfold kd;decide,ap⟩
def LS.Y(h:LS c n q):kd n/\c∈jQ/\∃w h m,LW c n q w h m:=by
 rcases h with⟨H,H,H⟩|⟨H,H,H⟩|⟨H,H,H⟩|⟨H,H,H⟩|⟨H,H,H⟩
 ·exact⟨2e6,ap,_,_,_,.a2 ⟨H,H,H,H,H,H⟩⟩
 ·exact⟨2e6,ap,_,_,_,.aD (.a2 ⟨H,H,H,H,H,H⟩)⟩
 ·exact⟨15e6,ap,_,_,_,79 (.a2 ⟨H,H,H,H,H,H⟩)⟩
 ·exact⟨15e6,ap,_,_,_,.aD (79 (.a2 ⟨H,H,H,H,H,H⟩))⟩
 ·exact⟨36e9,ap,_,_,_,280 ⟨H,H,H,H,H,H⟩⟩
def wk(xs:4e9)(i:I):bd:=(xs[i]?).ge 0
def Oc{d:I}{n:K}(e:kd n){xs:4e9}(h:xs.U=n.aI):58 av (d+1) 447 [.eh xs] 20e4:=by
 rcases e with H|rfl|rfl|rfl
 ·exact N8 h λs=>aku
 ·exact N9 h λs x=>akv
 ·exact Oa h λs x b a=>akw
 ·exact Xc h λs x b a m k r p=>akx
def Xd{n:K}(r:kd n){xs:4e9}(h:xs.U=n.aI):wc n (wk xs)=20e4:=by
 rcases r with H|rfl|rfl|rfl
 ·show N8 h λs=>?_;refine [((s.aI:K)*1)].lc=_;simp only[gk,D.Od,D.Oe];exact Eq.bh (K.BQ (↑s.aI) (256*0))
 ·show N9 h λs x=>?_;refine [((s.aI:K)*1),(25e6*256)].lc=_;simp only[gk,D.Od,D.Oe];lia
 ·show Oa h λs x a e=>?_;refine [((s.aI:K)*1),(25e6*256),((a.aI:K)*65536),((e.aI:K)*16777216)].lc=_;simp only[gk,D.Od,D.Oe];lia
 ·show Xc h λs x a e m k b p=>?_;refine [((s.aI:K)*1),(25e6*256),((a.aI:K)*65536),((e.aI:K)*16777216),((m.aI:K)*4294967296),((k.aI:K)*1099511627776),((b.aI:K)*281474976710656),((p.aI:K)*72057594037927936)].lc=_;simp only[gk,D.Od,D.Oe];lia
def Of{n:K}(r:kd n){p:K}(e:0<=p)(h:p+n<=b.aN.U){xs:4e9}(a:50 b.aN p (p+n)=xs):∀q∈y7 n b p (wk xs),q:=by
 intro q s;have m:0<=n:=by unfold kd at r;lia
 unfold y7 at s;rcases D.eR.mp s with H|s
 ·exact fX (368 (K.du.bl h))
 show aM (D.Lj.mp s) λi x s=>?_;rw[D.CQ]at x;simp only[D.eR,D.mn,mo]at s;rcases s with H|rfl
 ·have k:i<xs.U:=by rw[<-a,(mO b.aN e m h).2];exact x
  clear s;rw[ana b.aN e (K.nQ i) (by exact K.NG.mp x) h,a,K.tl];unfold wk;rw[D.ic k];rfl
 ·exact anc _ _
def Xe(h:LS c n q):58 av (d+2) 105 [6e6,0 (8*n),10e7] (m3 x (8*n) q):=by
 rcases h with⟨H,H,H⟩|⟨H,H,H⟩|⟨H,H,H⟩|⟨H,H,H⟩|⟨H,H,H⟩
 ·exact aky
 ·exact akA
 ·exact akz
 ·exact akB
 ·exact akC
def zg{app w h m:K}(h0:0<=app/\app<w)(hm:w<=m):(if h<=app % w then(app % w-w) % m else app % w)=if h<=app then app-w+m else app:=by
 rw[K.Wp h0.1 h0.2];split
 ·rw[<-K.add_emod_right (app-w) m];exact K.Wp bM bM
 ·rfl
def ang{c n q w h m x:K}(b:LW c n q w h m){xs:4e9}(e:xs.U=n.aI)(a:20e4=x):m3 x (8*n) q=if h<=x then x-w+m else x:=by
 subst a;have s:=anb xs;rw[e]at s;clear e;rcases b with⟨H,H,H,H,H,H⟩|⟨H,H,H,H,H,H⟩|⟨H,H,H,H,H,H⟩|⟨H,H,H,H,H,H⟩|⟨H,H,H,H,H,H⟩
 ·exact zg (w:=256) (h:=128) (m:=4294967296) s ap
 ·exact 417 256 128 s
 ·exact zg (w:=65536) (h:=32768) (m:=4294967296) s ap
 ·exact 417 65536 32768 s
 ·exact 417 4294967296 2147483648 s
def anh(p:K)(h:0<=p)(g:I->V)(r:I):∀(s:I) (apt:0e0),(D.range' s r).iT (λl (i:I)=>D.cM l (p+i).aI (g i)) apt=mv apt (p.aI+s) ((D.range' s r).aj g):=by
 induction r with
 |i4=>exact λx x=>rfl
 |hH r e=>
  intro s apt;rw[D.range'_succ,D.MI,D.nW,e (s+1),show(p+s).aI=p.aI+s from K.alt h s];rfl
def Xf(p:K)(g:I->V):∀(r:D I) (apt:0e0),(r.iT (λl (i:I)=>D.cM l (p+i).aI (g i)) apt).U=apt.U
 | [],apt=>rfl
 |i::r,apt=>by rw[D.MI,Xf p g r,D.vK]
def ani(s:kd n)(v:K):Builtin.i7 v (Ko n)=v % (256^n.aI):=by
 rcases s with H|rfl|rfl|rfl
 ·exact y4 v
 ·exact Wq v
 ·exact C2 v
 ·exact y0 v
def bm(e:0<=v)(s:i<n):v % (256^n:K)/(256^i:K) % 256=v/(256^i:K) % 256:=by
 (show oE (K.N0 e) λm x=>?_;subst x);have h:m % 256^n/256^i % 256=m/256^i % 256:=by
  obtain⟨k,H⟩:∃k,n=i+(k+1):=I.exists_eq_add_of_lt s;clear s;rw[I.pow_add,I.mod_mul_right_div_self];exact I.mod_mod_of_dvd _ ⟨256^k,by rw[I.pow_succ,I.R9]⟩
 have h:=bB (I.cast (R:=K)) h;simp only[K.Wi,K.natCast_ediv,K.Wl]at h;exact h
def anj(x:kd n)(s:0<=v)(h:i<n.aI):bA (279 (pG n v i))= 38 (v.aK (256^i)) 256:=by
 unfold pG;rw[ani x,K.pow_mul,show(2:K)^8=256 from H];exact ane v (256^n.aI) 0 (256^i) s (K.CZ ap) (K.CZ ap) (bm s h)
def ank{n v p:K}(s:kd n)(r:0<=v){b:MB}(x:0<=p)(h:p+n<=b.aN.U):y8 n b p v n.aI=(bV b.aN 5e1 (G (p+n)) ((36e6).aj λi=>279 (pG n v i))).aj bA:=by
 have a:0<=n:=by unfold kd at s;lia
 rw[<-anf (b:=b) (vs:=(36e6).aj λi=> 38 (v.aK (256^i)) 256) x a h (by rw[D.fq,D.VF])]
 ·unfold y8;rw[D.range_eq_range',anh p x];rfl
 ·rw[D.rB];exact D.yA λi e=>anj s r (D.CQ.mp e)
def anl(v:K)(i:I)(h:i<8):15 v (256^i)=true:=D.ib.mp (show(D.dR 8).dI (λi=>15 v (256^i))=true by kernel_rfl) i (D.CQ.bl h)
def anm(n v:K)(i:I):0<=pG n v i/\pG n v i<256:=by
 unfold pG;rw[y4];exact⟨K.nh _ ap,K.n8 _ ap⟩
section
variable{mL:I->aps}{sh:Sh}{b b0:MB}{k:I}{ns:D (K×V)}
def Xg(h:LU c n\/∃q,LS c n q)(r:kd n)(e:c∈jQ)(x:0<=a+o)(s:¬a+o+n<=10e2)(C:18 [1e5,0e7,12e6])(h0:14e1):48 [0e2]:=by
 have p:0<=n:=by unfold kd at r;lia
 have hm:=m_ldx av sh 1e2 k (k+1) (32 [1e5,0e7,12e6]) c n a o h;exact 242 (54 e) (λm=>rfl) hm (245 ⟨x,p,45e5⟩) (amf av 1e6 _ c n a o h) (λmL=>39 (eE (368 45e5)))
def ano(r:LU c n)(f:0<=o)(l:30e4)(C:18 [1e5,0e7,12e6])(j:7e4)(h0:14e1)(i:76 [.x]):48 [v]:=by
 show ij l λa d=>?_;show oA r.Y λs m=>?_;have u:0<=n:=by unfold kd at s;lia
 have h:0<=a+o:=bM;by_cases x:a+o+n<=10e2
 ·have p:=(mO b.aN h u x).2;generalize q:bD b.aN (G (a+o)) (G (a+o+n))=xs at p;have w:ee [.x] [2 20e4]:=⟨19e7,dZ⟩;have hm:=m_ld av sh 1e2 k (k+1) (32 [1e5,0e7,12e6]) c n a o xs r;have e:=λmL:4e8=>(by
   have e:=amg av 1e6 (1e7++[(131,.X [1e5,0e7,12e6])]) c n a o (wk xs) r
   rw[Xd s p]at e
   exact e:_)
  exact 122 j m w.eQ hm (28 (184 h u x) q (Oc s p) 24e7) e (λmL=>Dl (Of (b:=1e6) s h x q) (39 24e7)) (i sh _ ns _ C.h3 5e3 C.apx.up w)
 ·exact Xg (.a2 r) s m h x C h0
def anp(l:LS c n q)(V:0<=o)(apq:30e4)(C:18 [1e5,0e7,12e6])(P:7e4)(h0:14e1)(R:76 [.x]):48 [v]:=by
 show ij apq λa apA=>?_;(show hT l.Y λr app S=>?_;show nn S λw h m z=>?_;try clear S);have g:0<=n:=by unfold kd at r;lia
 have p:0<=a+o:=bM;by_cases u:a+o+n<=10e2
 ·have j:=(mO b.aN p g u).2;generalize f:bD b.aN (G (a+o)) (G (a+o+n))=xs at j;have e:=ang z j H;have e2:=Xd r j;have i:ee [.x] [2 (m3 20e4 (8*n) q)]:=⟨19e7,dZ⟩;have hm:=m_lds av sh 1e2 k (k+1) (32 [1e5,0e7,12e6]) c n q a o xs l;by_cases t:h<=20e4
  ·rw[eX t]at e;have s:=λmL:4e8=>(by
    have s:=amh av 1e6 (1e7++[(131,.X [1e5,0e7,12e6])]) c n q w h m a o (wk xs) z
    rw[e2,<-e]at s
    exact s:_)
   exact 122 P app i.eQ hm (ac (184 p g u) (28 f (Oc r j) (Xe l) 24e7)) s (λmL=>Dl (Of (b:=1e6) r p u f) (24 (eE t) 24e7)) (R sh _ ns _ C.h3 5e3 C.apx.up i)
  ·rw[d5 t]at e;rw[e]at i hm;have s:=λmL:4e8=>(by
    have s:=ami av 1e6 (1e7++[(131,.X [1e5,0e7,12e6])]) c n q w h m a o (wk xs) z
    rw[e2]at s
    exact s:_)
   exact 122 P app i.eQ hm (ac (184 p g u) (84 f (Oc r j) (ac (by have h:=Xe (d:=32) (x:=20e4) l;rw[e]at h;exact h) (39 24e7)))) s (λmL=>Dl (Of (b:=1e6) r p u f) (24 (fX t) 24e7)) (R sh _ ns _ C.h3 5e3 C.apx.up i)
 ·exact Xg (.aD ⟨q,l⟩) r app p u C h0
def anq{l:I}{n:K}(h:l=16\/l=32)(s:n<=8):l+n.aI<=16777216:=
 I.dV (I.BF (by rcases h with e|e<;>rw[e]<;>decide:l<=32) (K.qw.bl s:n.aI<=8)) ap
def anr{c n o x:K}{v:V}(m:ST c n)(apE:0<=o)(R:30e4)(apw:0<=x)(C:18 [1e5,0e7,12e6])(W:7e4)(h0:14e1)(S:32e4):48 [6e6,v]:=by
 show ij R λa apD=>?_;show oA m.Y λd app=>?_;have w:0<=n/\n<=8:=by unfold kd at d;lia
 have e:0<=a+o:=bM;have z:=C.apx.aN;by_cases s:a+o+n<=10e2
 ·generalize hr:((D.dR n.aI).aj λi=>bd.cf (pG n x i).aI)=r;have apq:r.U=n.aI:=by rw[<-hr,D.fq,D.VF]
  have apA:=q7 b.aN r e w.1 s apq;have t:71 {aF b with aN:=bV b.aN (G (a+o)) (G (a+o+n)) r}:=5e3;have f:82 {aF b with aN:=bV b.aN (G (a+o)) (G (a+o+n)) r} (k+1):=(387 (bV b.aN (G (a+o)) (G (a+o+n)) r) (bV b.aN (G (a+o)) (G (a+o+n)) r).U apA z);have hm:=m_st av sh C.h3 1e2 k (k+1) (32 [1e5,0e7,12e6]) c n a x o m;rw[hr]at hm;exact amu C W app t f (λq=>rfl) hm (ac (184 e w.1 s) (Dl (λp h=>by
   (show aM (D.sp.mp h) λi q u=>?_;subst u)
   refine bJ ((0:K)<=8*(i:K))=true
   exact eE (K.Wk ap (K.nQ i))) (ac (by
    rw[D.ib]
    intro j g
    (show aM (D.sp.mp g) λi q u=>?_;subst u)
    clear g
    have:=anm n x i
    simp only[al.lb,mW];exact a9) (39 (anq z w.2))))) (λmL=>amk av 1e6 _ c n a x o m) (λmL=>ac (fX (368 (K.du.bl s))) λp h=>by
    show aM (D.Lj.mp h) λi l h=>?_
    rw[D.CQ]at l
    simp only[D.eR,D.mn,mo]at h
    have P:i<8:=I.mF l (K.qw.bl w.2)
    rcases h with H|rfl|rfl
    ·exact anl _ i P
    ·rfl
    ·show eE ⟨K.Wn e (K.nQ i),?_⟩
     clear h
     unfold y8
     rw[Xf,D.fq]
     exact K.mF (K.add_lt_add_left (K.NG.mp l) _) s) (λmL=>by rw[<-hr];exact ank (b:=1e6) d apw e s) (S sh _ ns [] C.h3 t f dZ)
 ·have hm:=m_stx av sh 1e2 k (k+1) (32 [1e5,0e7,12e6]) c n a x o m;exact 242 (54 app) (λq=>rfl) hm (245 ⟨e,w.1,45e5⟩) (amj av 1e6 _ c n a x o m) (λmL=>39 (eE (368 45e5)))
universe e
def Xh(h:15e0):hh (y6 sh):=by
 rcases h with H|rfl|rfl
 ·exact 15e6
 ·exact 15e6
 ·exact 79 H
def fm(b:MB)(f:K)(v:V):MB:={aF b with no:=b.no++[.X [0 f,6 [v]]],nl:=b.nl++[.X [0 f,8 [v]]]}
def c7.fm{k:I}{ns:33e4}(apx:20e8){f:K}{v:V}(x:KV .x v):c7 (fP sh (Internal.fm b f v) [v]) (k+1) (ns++[(f,v)]):=by
 have s:c7 (Internal.fm b f v) (k+1) (ns++[(f,v)]):={apx.up with
  no:=by refine b.no++_=_;rw[apx.no,D.sz];rfl
  nl:=by refine b.nl++_=_;rw[apx.nl,D.sz];rfl
  ns:=⟨λp r=>by
   rcases D.lI.mp r with h|h
   ·exact apx.ns.1 p h
   ·rw[D.cY]at h;subst h;exact x,by rw[D.hN];exact I.TR apx.ns.2 1⟩}
 cases sh with
 |a=>exact{s with g:=λw e=>by cases(D.cY.mp (show w∈ [v]from e));exact x}
 |b m E=>exact s
def bt.fm(b:MB)(f:K)(v:V):71 (Internal.fm b f v):=5e3
def bt.fP(h:35e1)(sh:Sh)(F:0e0):71 (fP sh b' F):=by cases sh<;>exact h
section
variable{mL:I->aps}{sh:Sh}{b b0:MB}{k:I}{ns:D (K×V)}{ts:D apv}{aC:D V}
def Xi:vm sh (fm b f v) k1 s0 s d=vm sh {aF b with no:=(1e2).no++[.X [0 f,6 [v]]]} k1 s0 s d:=by cases sh<;>rfl
def Xj:87 (182 (fm b f v)) 4e2 s=ad {aF (14e0)with nl:=(1e6).nl++[.X [0 f,8 [v]]]} 0e6 s:=H
def c7.Og(apx:20e8):b.no.U=ns.U/\b.nl.U=ns.U:=by rw[apx.no,apx.nl,D.fq,D.fq];exact 15e2
def ans{f:K}(x:f=1\/f=2\/f=3\/f=4){v:V}(r:KV q v)(C:18 [4e0,0 f])(e:7e4)(a:32e4):48 [v]:=by
 have h1:=C.apx.Og;have h2:=C.apx.ns.2;have h3:=C.apx.B.2;have hm:=m_host av sh C.h3 1e2 k (k+1) (32 [4e0,0 f]) f x v;rw[<-Xi]at hm;have s:=λmL:4e8=>(by
  have s:=ame av 1e6 (1e7++[(131,.X [4e0,0 f])]) f x v
  rw[<-Xj]at s
  exact s:_)
 have h:c7 (fP sh (fm b f v) [v]) (k+1) (ns++[(f,v)]):=C.apx.fm r.x;exact WZ C e ap (bt.fm b f v) h (λp=>rfl) hm (28 bM bM (363 b.no.U) bM) s (λmL=>39 (363 b.nl.U)) 13e8 (a (y6 sh) _ _ [] (Xh C.h3) ((bt.fm b f v).fP sh [v]) h dZ)
universe e
def Dm(b:MB)(h:b.apr=v):({b with apr:=v}:MB)=b:=by rw[<-h]
def Xk(b:MB)(apw:K)(h:b.apr=v):({b with apr:=v,pk:=apw}:MB)={b with pk:=apw}:=by rw[<-h]
def Xl(x:K):361 x=true:=H
def ant(h:b.apr=3)(T:0e1)(fa s:K):263 av b [4e0,3e8] [0e8,13e3] []=46 {b with gv:=(b.gv+4)} [362 (s+b.e9)] [361 (s+b.e9)=true,1<=16777216]:=by
 rw[h];exact al7 av b T fa s
def anu(h:b.apr=1)(T:0e1)(fa s:K):263 av b [4e0,3e8] [0e8,13e3] []=c5 0e6 (ad b (.X [25e3,14e5]) [0e8,13e3]) T []:=by
 rw[h];exact al8 av b T fa s
def q8(sh:Sh)(b:MB)(cN:0e0):MB:={fP sh (393 (1e2).pk) cN with gv:=(1e2).gv+4}
def bt.q8:71 (Internal.q8 sh b cN):=by cases sh<;>exact⟨H,H,H,H⟩
def c7.q8{k:I}{ns:33e4}(apx:20e8){cN:0e0}(s:eJ .x cN):82 (Internal.q8 sh b cN) (k+1):=by
 have h:=apx.up;cases sh with
 |a=>exact⟨h.aN,h.T0,h.T1,h.T2,h.c0,h.c1,h.c2,h.e0,h.e1,h.d0,h.d1,h.no,h.nl,h.ns,h.e9,h.apr,s,h.B⟩
 |b x E=>exact⟨h.aN,h.T0,h.T1,h.T2,h.c0,h.c1,h.c2,h.e0,h.e1,h.d0,h.d1,h.no,h.nl,h.ns,h.e9,h.apr,h.g,h.B⟩
def c7.anv{k:I}{ns:33e4}(apx:20e8)(hm:kr 62 b.m){cN:0e0}(h:eJ .x cN):l5 (fP sh (393 (1e2).pk) cN):=by
 cases sh with
 |a=>
  have s:82 {aF b with pk:=jo (1e2).pk 2,g:=cN} (k+1):={apx.up with g:=h};exact s.wd hm
 |b x E=>
  have s:82 (393 (1e2).pk) (k+1):={apx.up with};exact s.wd hm
def anw{mL:4e8}:ad (182 (q8 sh b cN)) 0e6 s=ad {aF (14e0)with gv:=(1e6).gv+4} 0e6 s:=by cases sh<;>rfl
section
variable{mL:I->aps}{sh:Sh}{b b0:MB}{k:I}{ns:D (K×V)}{c:K}{r au cN:D V}{fa fb:K}{o:D cp}{o2:(I->aps)->D cp}{b9:D Prop}{nk:(I->aps)->D Prop}
def Xm(v:w= 2 (325 fb b.e9))(C:18 (1e5::r))(n:7e4)(q:c∈jQ)(a:eJ .x cN)
  (dh:302 (k+1) (1e5::r) au (1e5::r) o=d9 (pH sh (393 (1e2).pk) (k+1) cN fa fb true) (32 (1e5::r)) b9) (ho:13e1)
  (l7:∀mL,290 1e6 (1e5::r) au (1e7++[(131,.X (1e5::r))]) (o2 mL)=150 0e6 {aF (14e0)with gv:=(1e6).gv+4} [w] (1e7++[(131,.X (1e5::r))]) (nk mL)) (l8:46e8)
  (IH:76 [.j2]):32e3:=by
 subst v;have s:ee [.j2] [2 (325 fb b.e9)]:=⟨⟨_,H,K.nh _ ap,K.n8 _ ap⟩,dZ⟩;have hs:71 (q8 sh b cN):= .q8;have x:=C.apx.q8 (sh:=sh) a;have h3:hh (.b hb jq):= 79 H;show zb (c:=5) hs (λapu h=>?_) (λmL hL bH h=>?_) (IH (.b hb jq) _ ns _ h3 hs x s)
 ·have:=aml C.h3 (C.apx.anv C.hm a) dh ho C.at (zc (show 71 (393 (1e2).pk)from⟨H,H,H,H⟩) n) h;have e:(211 (dn+1+4))=λdn=>apu (dn+5):=y5 λdn=>by rw[K.Wo];rfl
  exact e▸a9
 ·have m:=l7 mL;rw[<-anw (sh:=sh) (cN:=cN)]at m;exact Da (b:=14e0) (b':=182 (q8 sh b cN)) (x.og hL) C.apx.B.1 hs.2.1 hs.2.2.2 q C.hr H (s.eQ) m (l8 mL) h
def Xn(C:18 (1e5::r))(a:c=16\/c=17)(h0:14e1)(x:21 cA cA)
  (dh:fT (302 (k+1) (1e5::r) au (1e5::r) o)=gw (275 (k+1) []).U (138 1e2 (k+1) anx 63 [(58,14e5)]) b9) (ho:13e1)
  (l7:∀mL,290 1e6 (1e5::r) au (1e7++[(131,.X (1e5::r))]) (o2 mL)=c5 0e6 (ad 1e6 (.X [25e3,14e5]) cA) (1e7++[(131,.X (1e5::r))]) (nk mL)) (l8:46e8):32e3:=by
 have h:82 1e2 (k+1):=C.apx.up;have cQ:∀mL,kr 51 mL->LC 14e0 k au (.Y (306 [25e3,14e5]) (c9 49e8 4e2 (.X [25e3,14e5]) cA) 1e7):=λmL hL=>by
  have hd:=y9 (b:=14e0) (b':=49e8) (h.og hL) C.apx.B.1 C.hr (oa b.aN) 28e2 x 28e2 (l7 mL) (l8 mL);exact Db (b:=14e0) (b':=49e8) (w:= .X [25e3,14e5]) (h.og hL) C.apx.B.1 C.hr (oa b.aN) (en:= .X [25e3,14e5]) 28e2 x (adj av 14e0 49e8 4e2 au cA r c a) (39 hd)
 show⟨_,_,.X [25e3,14e5],cA,1e2,k+1,ns,Wy C.h3 dh H ho C.at,cQ,79 ⟨H,sh,k+1,anx,C.h3,?_⟩,h,?_⟩
 ·have e:(275 (k+1) []).U=(275 49e1 []).U:=by
   clear dh;rcases C.h3 with H|rfl|rfl<;>rfl
  clear C;rw[e]
 ·exact⟨h0.1.bh,h0.2.1.bh,h0.2.2.1.bh,h0.2.2.2.bh,λs=>rfl,x⟩
universe e
section
variable{mL:I->aps}{sh:Sh}{b b0:MB}{k:I}{ns:D (K×V)}
def KV.Xo(a:KV .j2 v)(s:127 w):eJ .x [v,w]:=λx e=>by
 rcases D.eR.mp e with H|h
 ·exact a.x
 ·rw[D.cY]at h;subst h;exact s.x
def any(a:KV .j2 v)(x:127 w)(C:18 [4e0,3e8])(r:7e4)(h0:14e1)(p:76 [.j2]):48 [v,w]:=by
 have m:=a.Xo x;(show aM a λfb e q=>?_;try clear a;subst e);(show aM x λfa e n=>?_;try clear x;subst e);rcases C.apx.apr with s|s
 ·have hm:=m_far1 av sh C.h3 1e2 k (k+1) (32 [4e0,3e8]) fa fb;have h:=λmL:4e8=>anu (b:=1e6) s (1e7++[(131,.X [4e0,3e8])]) fa fb;rw[Dm 1e2 s]at hm;exact Xn C 2e6 h0 (λu=>rfl) hm a4 h 48e3
 ·have hm:=m_far3 av sh C.h3 1e2 k (k+1) (32 [4e0,3e8]) fa fb;rw[Dm 1e2 s,Xk 1e2 _ s]at hm;have h:=λmL:4e8=>(by
   have h:=ant (b:=1e6) s (1e7++[(131,.X [4e0,3e8])]) fa fb
   rw[l9 _ ap]at h
   exact h:_)
  exact Xm H C r ap m hm 40e9 h (231 (Xl _) bM) p
universe e
section
variable{mL:I->aps}{sh:Sh}{b b0:MB}{k:I}{ns:D (K×V)}
def anz(C:18 [21e3])(v:k+1=b.B.U)(h0:14e1):48 []:=by
 (show nn (alq (m_fin av sh 1e2 k (k+1) (32 [21e3]) []) a4 C.at (amt 5e3 v)) λS u i m=>?_;show aM m λaC s n=>?_;try clear m);have p:82 1e2 (k+1):=C.apx.up;have q:∀mL,kr 51 mL->LC 14e0 k [] (.Y (306 [28e9,5e7]) (87 49e8 4e2 []) 1e7):=λmL hL=>Db (b:=14e0) (b':=49e8) (w:= .X [28e9,5e7]) (p.og hL) C.apx.B.1 C.hr (oa b.aN) (en:= 0e6) (b6:=[]) 52e2 52e2 (adl av 14e0) a4;show⟨_,.X [28e9,5e7],0e6,[],1e2,k+1,ns,n,q,.a2 ⟨H,S,u,_,[],i,aC,1,H,?_⟩,p,⟨h0.1.bh,h0.2.1.bh,h0.2.2.1.bh,h0.2.2.2.bh,λr=>rfl,λr=>rfl⟩⟩;clear n;rcases C.h3 with H|rfl|rfl
 ·(show lG s λh e a x=>?_;try clear s;subst h;clear e;subst a;subst x);clear C;exact .a2 ⟨H,H,H⟩
 ·(show lG s λh e a x=>?_;try clear s;subst h;clear e;clear a;subst x);exact .aD ⟨H,_,_,2e6,2e6,H⟩
 ·(show lG s λh e a x=>?_;try clear s;subst h;clear e;clear a;subst x);exact .aD ⟨H,_,_,2e6,21e6,H⟩
universe e
def Xp{F:MS}:kT F (5 1213):=17e5
section
variable{mL:I->aps}{sh:Sh}{b b0:MB}{k:I}{ns:D (K×V)}
def Oh{b9:6e1}(dh:fT (vo av sh b k1 bw au T o)=gw i O b9)(s:13e1):av 35 (271 [7e9,3e7,bw]) (101 b au) T (.a7 i O gQ):=NF dh s Xp
def Dn{b9:6e1}(dh:vo av sh b k1 bw au T o=QG v O gQ b9)(s:13e1):121 35 (271 [7e9,3e7,bw]) (101 b au) T v O gQ:=iY dh s Xp
def six(h:0<=app/\app<6):Y6 app:=by unfold Y6;lia
def c7.tb2(apx:20e8)(s:19e3):eJ .rf 10e3:=by
 rcases s with H|rfl
 ·exact apx.T0.1
 ·exact apx.T2.1
def anA(s:Q3 q)(h:app=0\/app=1\/app=2\/app=3\/app=4\/app=5)(x:31e6=q):app=0\/app=2\/app=3:=by
 subst x;rcases h with H|rfl|rfl|rfl|rfl|rfl
 ·exact 2e6
 ·exact 55e5
 ·exact 15e6
 ·exact 79 H
 ·exact 55e5
 ·exact 55e5
def Oi{c q t a:K}{F:0e0}(r:vk c)(m:Q3 q)(h:19e3)(j:0<=a)(i:21 F F)(C:18 [1e5,10e7,1e1])(h0:14e1)
  (hx:∀z,∃o b9,fT (302 (k+1) [1e5,10e7,1e1] (0e2::F) [1e5,10e7,1e1] o)=gw (275 (k+1) []).U (138 1e2 (k+1) F 51 [(58,7e8)]) b9/\
   ((∀gQ,av 35 (271 [7e9,3e7,.X [1e5,10e7,1e1]]) (275 (k+1) (0e2::F)) gQ (205 (275 (k+1) []).U 1e2 (k+1) F 51 [(58,7e8)] gQ))->∀p∈b9,p))
  (hr:∀app,(app=0\/app=2\/app=3)->q=31e6->bJ (5e2<=a)=false->16e4=34e4->48 (0e2::F)):48 (0e2::F):=by
 have v:c∈19::jQ:=by clear hx C;rcases r with H|rfl<;>decide
 by_cases n:5e2<=a
 ·have hd:=eE n;show gd (hx xi) λo b9 hm x=>?_;exact 242 v i hm (x λgQ=>Oh (m_adu av sh C.h3 1e2 (k+1) _ c q a t h F) (39 hd)) (al9 av 1e6 _ c q a t r h F) (λmL=>39 hd)
 have hd:bJ (5e2<=a)=false:=fX n;show aM (W9 (C.apx.tb2 h) j (by exact K.wj n)) λapp s u=>?_;rcases u with H|⟨app,H,u⟩
 ·show gd (hx xj) λo b9 hm x=>?_;exact 242 v i hm (x λgQ=>Oh (m_adn av sh C.h3 1e2 (k+1) _ c q a t h F) (24 hd s)) (ama av 1e6 _ c q a t r h F) (λmL=>24 hd s)
 have w:=six u;by_cases e:31e6=q
 ·exact hr app (anA m w e) e.bh hd s
 ·show gd (hx xk) λo b9 hm x=>?_;exact 242 v i hm (x λgQ=>Oh (m_adw av sh C.h3 1e2 (k+1) _ c q a t app m h w e F) (129 hd s s)) (amb av 1e6 _ c q a t app r m h w e F) (λmL=>129 hd s s)
def o4{p q r s:Prop}(e:p)(h2:q)(h3:r)(h:s):∀x∈ [p,q,r,s],x:=28 e h2 h3 h
def sim_ind{q t:K}{u v:V}(r:q=1\/q=2)(p:19e3)(c:127 u)(i:KV kv v)(C:18 [4e1,10e7,1e1])(o:7e4)(h0:14e1)(l:32e4):48 [u,v]:=by
 show ij c λa j=>?_;have n1:=C.apx.Og;have P:=C.apx.ns.2;have d:=C.apx.B.2;show Oi 2e6 (r.ak .a2 λh=> .aD 25e7) p j.1 (λf=>bB (λv=>[v]) (i.eQ f)) C h0 (λz=>⟨_,_,m_inx av sh 1e2 k (k+1) _ q t a v z,λh=>39 (h _)⟩) λapp n e hd s=>?_;have w:app=0\/app=2:=by
  rcases n with H|rfl|rfl
  ·exact 2e6
  ·exact 21e6
  ·rcases r with H|rfl<;>cases e
 clear r;subst e;have hm:=m_ink av sh C.h3 1e2 k (k+1) (32 [4e1,49e5,1e1]) 31e6 t a app w v;rw[<-Xi]at hm;have x:=λmL:4e8=>(by
  have x:=WP av 1e6 (1e7++[(131,.X [4e1,49e5,1e1])]) 17 a t app 2e6 p w v
  rw[<-Xj]at x
  exact x:_)
 have m:c7 (fP sh (fm b 31e6 v) [v]) (k+1) (ns++[(31e6,v)]):=C.apx.fm i.x;exact WZ C o ap (bt.fm b 31e6 v) m 45e2 hm (ac (Dn (NM av sh C.h3 1e2 (k+1) _ 17 a t app p n [v]) (o4 hd s s s)) (o4 24e7 24e7 (363 b.no.U) (by exact I.nC 16777216))) x (λmL=>ac hd (o4 s s s (363 b.nl.U))) 13e8 (l (y6 sh) _ _ [] (Xh C.h3) ((bt.fm b 31e6 v).fP sh [v]) m dZ)
def anB{t:K}{u v w:V}(q:19e3)(i:127 u)(m:KV .j2 v)(n:127 w)(C:18 [4e1,3e8,1e1])(d:7e4)(h0:14e1)(c:76 [.j2]):48 [u,v,w]:=by
 (show aM i λa p l=>?_;try clear i;subst p);have W:=C.apx.ns.2;have R:=C.apx.B.2;show Oi 2e6 (79 H) q l.1 (λf=>by refine [72 _,72 _]=_;rw[m.eQ f,n.eQ f]) C h0 (λz=>⟨_,_,m_inx2 av sh 1e2 k (k+1) _ 5 t a v w z,λh=>39 (h _)⟩) λapp g e hd s=>?_;have o:app=3:=by
  rcases g with H|rfl|rfl
  ·cases e
  ·cases e
  ·rfl
 subst o;have P:=m.Xo n;(show aM m λfb p S=>?_;try clear m;subst p);(show aM n λfa p apA=>?_;try clear n;subst p);have j:=NM av sh C.h3 1e2 (k+1) [(164,7e9),(207,3e7),(43,.X [4e1,3e8,1e1]),(6,4e1)] 17 a t 3 q (79 H) [2 fb,13e3];rcases C.apx.apr with x|x
 ·have hm:=m_inf1 av sh C.h3 1e2 k (k+1) (32 [4e1,3e8,1e1]) t a fa fb;have r:=λmL:4e8=>amd av 1e6 (1e7++[(131,.X [4e1,3e8,1e1])]) a fa fb t q x;rw[Dm 1e2 x]at hm;exact Xn C 21e6 h0 (λapq=>rfl) hm (39 (Dn j (o4 hd s s s))) r (λmL=>o4 hd s s s)
 ·have hm:=m_inf3 av sh C.h3 1e2 k (k+1) (32 [4e1,3e8,1e1]) t a fa fb;have r:=λmL:4e8=>(by
   have r:=amc av 1e6 (1e7++[(131,.X [4e1,3e8,1e1])]) a fa fb t q x
   rw[l9 _ ap]at r
   exact r:_)
  rw[Dm 1e2 x,Xk 1e2 _ x]at hm;exact Xm H C d ap P hm (24 (Dn j (o4 hd s s s)) 24e7) r (λmL=>84 hd s (o4 s s (Xl _) 24e7)) c
universe e
section
variable{mL:I->aps}{sh:Sh}{b b0:MB}{k:I}{ns:D (K×V)}
def anC:xJ sh (fm b f v) k1 s0=xJ sh {aF b with no:=(1e2).no++[.X [0 f,6 [v]]]} k1 s0:=by cases sh<;>rfl
def anD{o2:4e8->2e1}{b9:6e1}{e:4e8->6e1}(m:KV .x v)(C:18 (8e3::r))(h0:14e1)
  (dh:302 (k+1) (8e3::r) au (8e3::r) o=d9 (xJ sh (fm b 1 v) (k+1) [v]) (32 (8e3::r)) b9) (ho:13e1)
  (l7:∀mL,290 1e6 (8e3::r) au (1e7++[(131,.X (8e3::r))]) (o2 mL)=201 (182 (fm b 1 v)) 4e2 [] (1e7++[(131,.X (8e3::r))]) (e mL)) (l8:∀mL,∀p∈e mL,p):32e3:=by
 have x:c7 (fP sh (fm b 1 v) [v]) (k+1) (ns++[(1,v)]):=C.apx.fm m;have j:c7 (fP (.b [] []) (fm b 1 v) [v]) (k+1) (ns++[(1,v)]):=C.apx.fm m;have hs:71 (fP sh (fm b 1 v) [v]):=(bt.fm b 1 v).fP sh [v];show gd (alr C.h3 (x.wd (hs.1▸C.hm)) dh ho C.at) λu aC i n=>?_;clear dh;have cQ:∀mL,kr 51 mL->LC 14e0 k au (.Y (306 [28e9,5e7]) (87 (182 (fP sh (fm b 1 v) [v])) ((fP sh (fm b 1 v) [v]).aN.aj bA) []) 1e7):=λmL hL=>by
  have a:n9 (182 (fm b 1 v)):=j.og hL;have hd:=y9 (b:=14e0) (b':=182 (fm b 1 v)) a C.apx.B.1 C.hr (oa b.aN) 28e2 28e2 28e2 (l7 mL) (l8 mL);have q:=Db (b:=14e0) (b':=182 (fm b 1 v)) (w:= .X [28e9,5e7]) a C.apx.B.1 C.hr (oa b.aN) (en:= 0e6) (b6:=[]) 28e2 28e2 (adk av 14e0 (182 (fm b 1 v)) 4e2 au r) (39 hd);clear C;cases sh<;>exact q
 show⟨_,.X [28e9,5e7],0e6,[],fP sh (fm b 1 v) [v],k+1,ns++[(1,v)],n,cQ,.a2 ⟨H,62,u,_,[6e0],_,_,1,H,.aD ⟨H,20e1,aC,21e6,?_,H⟩⟩,x,?_⟩
 ·rcases i with⟨_,h⟩|⟨_,h⟩
  ·exact 25e7
  ·exact .aD h
 ·exact⟨hs.1.aU h0.1.bh,hs.2.1.aU h0.2.1.bh,hs.2.2.1.aU h0.2.2.1.bh,hs.2.2.2.aU h0.2.2.2.bh,λs=>rfl,λs=>rfl⟩
def anE(r:19e3)(n:127 u)(p:30e4)(C:18 [8e3,1e3,1e1])(h0:14e1):48 [u,v]:=by
 show ij n λa m=>?_;have n1:=C.apx.Og;have j:=C.apx.ns.2;have i:=C.apx.B.2;have l:=(116 C.hr);show Oi 21e6 2e6 r m.1 (λf=>bB (λv=>[v]) (p.eQ f)) C h0 (λz=>⟨_,_,m_tlx av sh 1e2 k (k+1) _ 1 t a v z,λh=>39 (h _)⟩) λapp w e hd s=>?_;have q:app=2:=by
  rcases w with H|rfl|rfl
  ·cases e
  ·rfl
  ·cases e
 subst q;have hm:=m_tlk av sh C.h3 1e2 k (k+1) (32 [8e3,1e3,1e1]) t a v;rw[<-anC]at hm;have x:=λmL:4e8=>(by
  have x:=WP av 1e6 (1e7++[(131,.X [8e3,1e3,1e1])]) 19 a t 2 21e6 r 21e6 v
  exact x:_)
 exact anD p.x C h0 hm (136 (Dn (NM av sh C.h3 1e2 (k+1) _ 19 a t 2 r 15e6 [v]) (o4 hd s s s)) bM bM bM (o4 bM bM (363 b.no.U) bM)) x (λmL=>ac hd (o4 s s s (363 b.nl.U)))
universe e
def Do(r:V):Prop:=∃c aC,r=V.X (1e5::aC)/\c∈jQ
def d3(bw:V)(ts s:D apv):Prop:=Do bw/\∀{mL:4e8} {sh:Sh} {b b0:MB} {k:I} {ns:33e4} {au:0e0},Cx mL sh b k ns bw->k+1<b.B.U->14e1->ee ts au->76 s->32e3
def qc(B:0e0)(ts:D apv):Prop:=∀{mL:4e8} {sh:Sh} {b b0:MB} {k:I} {ns:33e4} {au:0e0},20e8->kr 62 b.m->kr 51 mL->15e0->b.B.fh k=B->14e1->ee ts au->32e3
def ma(d4:0e0):Prop:=(∀r∈d4,Do r)/\∀B,B≠ []->qc B []->qc (d4++B) []
def Oj{l B:0e0}{r:V}{k:I}(h:l.fh k=r::B):l[k]? =G r/\l.fh (k+1)=B/\(B≠ []->k+1<l.U)/\(B=[]->k+1=l.U):=by
 have h1:(l.fh k)[0]? =G r:=by rw[h];rfl
 rw[D.V9]at h1;have h2:l.fh (k+1)=B:=by rw[<-D.ZH,h];rfl
 have h3:(l.fh k).U=B.U+1:=by rw[h];rfl
 rw[D.sf]at h3;have x:l.U=B.U+1+k:=(I.sub_eq_iff_eq_add (I.jx (I.lt_of_sub_ne_zero (h3▸I.Si _)))).mp h3;show⟨h1,h2,λs=>?_,λs=>?_⟩
 ·rw[x,I.BQ k];exact I.aes (I.succ_lt_succ (I.pos_of_ne_zero λe=>s (D.J6.mp e))) k
 ·rw[x,s,I.BQ k];rfl
def fY(s:c∈jQ)(h:∀{mL:4e8} {sh:Sh} {b b0:MB} {k:I} {ns:33e4} {au:0e0},18 (1e5::r)->k+1<b.B.U->14e1->ee ts au->76 ts'->32e3):108 (1e5::r) ts ts':=⟨⟨c,r,H,s⟩,h⟩
def kW{bw:V}{B:0e0}{ts s:D apv}(e:B≠ [])(hr:d3 bw ts s)(ih:qc B s):qc (bw::B) ts:=by
 intro mL sh b b0 k ns au apx hm hL h3 hd h0 p;(show lG (Oj hd) λe1 e2 e3 a=>?_;clear a);exact hr.2 ⟨apx,hm,hL,h3,e1⟩ (e3 e) h0 p λm b' lf b6 x hs h r=>ih h (hs.1▸hm) hL x (by rw[hs.2.1];exact e2) ⟨h0.1.aU hs.1.bh,h0.2.1.aU hs.2.1.bh,h0.2.2.1.aU hs.2.2.1.bh,h0.2.2.2.aU hs.2.2.2.bh⟩ r
def ee.aQ(h:ee [] s):s=[]:=by cases s with
 |aQ=>rfl
 |aP a l=>exact h.ak
def ee.ei(h:ee [q] s):∃v,s=[v]/\KV q v:=by cases s with
 |aQ=>exact h.ak
 |aP a l=>(show oA h λh1 h2=>?_;try clear h);cases h2.aQ;exact⟨a,H,h1⟩
def ee.j1(h:ee [q,r] s):∃v w,s=[v,w]/\KV q v/\KV r w:=by cases s with
 |aQ=>exact h.ak
 |aP a l=>(show oA h λh1 h2=>?_;try clear h);(show aM h2.ei λw e x=>?_;subst e);exact⟨a,w,H,h1,x⟩
def ee.kV(h:ee [q,r,p] s):∃v w x,s=[v,w,x]/\KV q v/\KV r w/\KV p x:=by cases s with
 |aQ=>exact h.ak
 |aP a l=>(show oA h λh1 h2=>?_;try clear h);(show gd h2.j1 λw x b e=>?_;subst b);exact⟨a,w,x,H,h1,e⟩
def KV.rxx(h:KV .rf v):KV .rx v:=by
 rcases h with H|⟨n,H,_⟩
 ·exact 2e6
 ·exact .aD ⟨n,H⟩
section
variable{ts:D apv}{n o:K}{q:apv}
def Dp(h:ts.U<=5):108 [5e8,0e3] ts (.cz::ts):=fY ap λC x h0 s e=>amx C x s h e
def anF(x:0<=n/\n<256)(h:ts.U<=5):108 [5e8,0e3] ts (.s8::ts):=fY ap λC e h0 s a=>amy x C e s h a
def q9(h:ts.U<=5):108 [21e5,0e3] ts (.j2::ts):=fY ap λC x h0 s e=>amz C x s h e
def Xq(x:q= .rf\/q= .rx)(h:ts.U<=5):108 [0 208,0e3] ts (q::ts):=fY ap λC e h0 s a=>amA x C e s h a
def anG(x:0<=n/\n<6)(h:ts.U<=5):108 [0 210,0e3] ts (.rf::ts):=fY ap λC e h0 s a=>amC x C e s h a
def anH(h:ts.U<=5):108 [29e0,0e7] ts (.rx::ts):=fY ap λC x h0 s e=>amD C x s h e
def anI(x:q= .rf\/q= .rx):108 [43e1] [q] [.x]:=fY ap λC e h0 s a=>by
 (show aM s.ei λv b h=>?_;subst b);clear s;show amE (ts:=[]) ?_ C e dZ ap a;rcases x with H|rfl
 ·exact h.rxx
 ·exact h
def anJ:108 [16e3,0e7] [] [.x]:=fY ap λC h h0 s x=>amF C h s ap x
def anK:158 [21e4,0e7] [.cz]:=fY ap λC h h0 e x=>by(show aM e.ei λv s a=>?_;subst s);exact amI (ts:=[]) a C h dZ x
def anL:108 [16e3,1e3] [] [.x]:=fY ap λC h h0 s x=>amG C h s ap x
def anM:158 [21e4,1e3] [.j2]:=fY ap λC h h0 e x=>by(show aM e.ei λv s a=>?_;subst s);exact amJ (ts:=[]) a C h dZ x
def anN:108 [16e3,1e8] [] [.x]:=fY ap λC h h0 s x=>amH C h s ap x
def anO:158 [21e4,1e8] [.rf]:=fY ap λC h h0 e x=>by(show aM e.ei λv s a=>?_;subst s);exact amK (ts:=[]) a C h dZ x
def Xr(s:7e3):108 [38e2,1e1] [.cz] [22e4]:=fY ap λC h h0 hs x=>by(show aM hs.ei λv e a=>?_;subst e);exact amP s a C h h0 x
def anP(e:7e3):158 [0 38,1e1] [22e4,.cz]:=fY ap λC s h0 hs h=>by(show jz hs.j1 λv w a b x=>?_;subst a);exact amR e b x C s h0 h
def anQ(s:7e3):108 [48e8,1e1] [] [.x]:=fY ap λC h h0 hs x=>by cases hs.aQ;exact amS s C h x
def anR(e:7e3):108 [39e3,1e1] [.cz,22e4] [.x]:=fY ap λC s h0 hs h=>by(show jz hs.j1 λv w a b x=>?_;subst a);exact amT e b x C s h
def anS(b:7e3):158 [33e9,1e1] [.cz,22e4,.cz]:=fY ap λC s h0 hs h=>by(show kX hs.kV λv w x e p a r=>?_;subst e);exact amU b p a r C s h0 h
def anT(s:16e0):158 [48e9,6e5] []:=fY ap λC h h0 hs x=>by cases hs.aQ;exact amV s C h x
def anU(s:16e0):158 [48e7,6e5] []:=fY ap λC h h0 hs x=>by cases hs.aQ;exact am9 s C h x
def anV(s:16e0):158 [8e6,6e5] [.cz,.cz,.cz]:=fY ap λC h h0 hs e=>by(show kX hs.kV λv w x a p b r=>?_;subst a);exact am8 s p b r C h h0 e
def anW(e:CP x app):158 [28e7,0 x,17e1] [.cz,.cz,.cz]:=fY ap λC s h0 hs h=>by(show kX hs.kV λv w x a p b r=>?_;subst a);exact amX e p b r C s h0 h
def row_tin(a:IN e t):158 [8e7,11e5,1e1] [.cz,.cz,.cz]:=fY ap λC s h0 hs h=>by(show kX hs.kV λv w x b k r p=>?_;subst b);exact amY a k r p C s h0 h
def row_msz:108 [0 63] [] [.x]:=fY ap λC h h0 s x=>by cases s.aQ;exact am4 C h x
def row_mgr:108 [17e2] [.cz] [.x]:=fY ap λC h h0 e x=>by(show aM e.ei λv s a=>?_;subst s);exact am5 a C h x
def row_mcp:158 [20e9] [.cz,.cz,.cz]:=fY ap λC s h0 b h=>by(show kX b.kV λv w x e p a r=>?_;subst e);exact am6 p a r C s h0 h
def row_mfl:158 [16e1] [.s8,.cz,.cz]:=fY ap λC s h0 b h=>by(show kX b.kV λv w x e p a r=>?_;subst e);exact am7 p a r C s h0 h
def lF(e:f=1\/f=2\/f=3\/f=4):158 [4e0,0 f] [q]:=fY ap λC h h0 s x=>by(show aM s.ei λv a b=>?_;subst a);exact ans e b C h x
def row_far:108 [4e0,3e8] [.j2,.cz] [.j2]:=fY ap λC s h0 e h=>by(show jz e.j1 λv w a b x=>?_;subst a);exact any b x C s h0 h
def Dq{q t:K}(s:q=1\/q=2)(a:19e3):158 [4e1,10e7,1e1] [.cz,kv]:=fY ap λC h h0 hs x=>by(show jz hs.j1 λv w b r e=>?_;subst b);exact sim_ind s a r e C h h0 x
def Dr(b:19e3):108 [4e1,3e8,1e1] [.cz,.j2,.cz] [.j2]:=fY ap λC s h0 hs h=>by(show kX hs.kV λv w x e p a r=>?_;subst e);exact anB b p a r C s h0 h
def LU_of:∀p∈A9,LU p.1 p.2:=by unfold LU;decide
def LS_of:∀p∈Ba,LS p.1 p.2.1 p.2.2:=by unfold LS;decide
def ld_or(h:c∈xO):(∃n,LU c n)\/∃n q,LS c n q:=by
 have z:=D.ib.mp (show xO.dI (λc=>A9.fN (λp=>274 p.1 c)||Ba.fN λp=>274 p.1 c)=true by decide) c h;rcases al.tQ.mp z with z|z
 ·show aM (D.p7.mp z) λp s e=>?_;exact .a2 ⟨p.2,fo e▸LU_of p s⟩
 ·show aM (D.p7.mp z) λp s e=>?_;exact .aD ⟨p.2.1,p.2.2,fo e▸LS_of p s⟩
def row_ld(p:c∈xO)(r:0<=o):108 [1e5,0e7,12e6] [.cz] [.x]:=by
 rcases ld_or p with⟨n,h⟩|⟨n,q,h⟩
 ·exact fY h.Y.2 (λC x h0 s e=>by(show aM s.ei λv a b=>?_;subst a);exact ano h r b C x h0 e)
 ·exact fY h.Y.2.1 (λC x h0 s e=>by(show aM s.ei λv a b=>?_;subst a);exact anp h r b C x h0 e)
def Xs(h:ST c n)(p:0<=o)(a:∀v,KV kv v->∃x,v= 6e6/\0<=x):158 [1e5,0e7,12e6] [kv,.cz]:=fY h.Y.2 (λC e h0 s b=>by
 (show jz s.j1 λv w q u k=>?_;subst q)
 clear s
 (show aM (a v u) λx m r=>?_;subst m)
 exact anr h p k r C e h0 b)
def row_st(a:c∈Kv)(s:0<=o):158 [1e5,0e7,12e6] [.cz,.cz]:=by
 have h:∃n,ST c n:=by
  exact mE (C:=λc=>∃n,ST c n) ⟨4,by unfold ST;decide⟩ (382 1 (382 2 mN)) c a
 show oE h λn h=>?_;exact Xs h s (by rintro v ⟨x,e,h0,_⟩;exact⟨x,e,h0⟩)
def row_st'(a:c∈Kw)(s:0<=o):158 [1e5,0e7,12e6] [.j2,.cz]:=by
 have h:∃n,ST c n:=by
  exact mE (C:=λc=>∃n,ST c n) ⟨8,by unfold ST;decide⟩ (382 1 (382 2 (382 4 mN))) c a
 show oE h λn h=>?_;exact Xs h s (by rintro v ⟨x,e,h0,_⟩;exact⟨x,e,h0⟩)
def anX:qc [.X [21e3]] []:=by
 intro mL sh b b0 k ns au apx hm hL h3 hd h0 x;(show lG (Oj hd) λe1 s h e4=>?_;clear s;clear h);cases x.aQ;exact anz ⟨apx,hm,hL,h3,e1⟩ (e4 H) h0
def Xt{t:K}(h:19e3){B:0e0}:qc (.X [8e3,1e3,1e1]::B) [.cz,.cz]:=by
 intro mL sh b b0 k ns au apx hm hL h3 hd h0 hs;(show lG (Oj hd) λe1 e s e4=>?_;clear e;clear s);(show jz hs.j1 λv w s a x=>?_;subst s);clear hs;exact anE h a x ⟨apx,hm,hL,h3,e1⟩ h0
universe e
def Al(C:153 K):I->Prop
 |0=>ku
 |n+1=>Al C n/\C n
def Xu{C:153 K}:∀{n:I},Al C n->∀i:I,i<n->C i
 |0,_,i,h=>bL h (I.Lb _)
 |n+1,g,i,h=>(I.lt_succ_iff_lt_or_eq.mp h).ak (Xu g.1 i) λe=>e▸g.2
def wl(a:K)(n:I)(h:0<n):0<=a.ah n:=by rw[l9 _ (by exact K.nQ n)];exact K.nh _ (by exact K.natCast_ne_zero_iff_pos.bl h)
def Ol(a:K)(n:I)(h:0<n):a.ah n<n:=by rw[l9 _ (by exact K.nQ n)];exact K.n8 _ (by exact K.natCast_pos.bl h)
def Om(n:I){C:153 K}{k:K}(h0:0<=k)(s:k<n)(g:Al C n):C k:=by
 rw[<-K.uj h0]at s⊢;exact Xu g _ (K.Le.mp s)
def ux(a:K)(n:I)(h:0<n){C:153 K}(g:Al C n):C (a.ah n):=by
 exact Om n (wl a n h) (Ol a n h) g
def zh(a:K):21e2=0\/21e2=1:=ux (C:=λz=>z=0\/z=1) a 2 ap (126 dZ 2e6 21e6)
def rc(a:K):8e2=0\/8e2=1\/8e2=2:=ux (C:=λz=>z=0\/z=1\/z=2) a 3 ap ⟨(126 dZ 2e6 15e6),79 H⟩
def Xv(a:K):38e1=0\/38e1=1\/38e1=2\/38e1=3:=ux (C:=λz=>z=0\/z=1\/z=2\/z=3) a 4 ap ⟨(126 ⟨dZ,2e6⟩ 15e6 36e9),.aD (79 H)⟩
def Xw(a:K):32e1=0\/32e1=1\/32e1=2\/32e1=3\/32e1=4:=ux (C:=λz=>z=0\/z=1\/z=2\/z=3\/z=4) a 5 ap (126 ⟨(126 dZ 2e6 15e6),36e9⟩ (.aD 36e9) (280 H))
def fm7(a:K):19e9=0\/19e9=1\/19e9=2\/19e9=3\/19e9=4\/19e9=5\/19e9=6:=ux (C:=λz=>z=0\/z=1\/z=2\/z=3\/z=4\/z=5\/z=6) a 7 ap (126 (126 ⟨(126 dZ 2e6 15e6),36e9⟩ (.aD 36e9) 31e2) (.aD 31e2) (79 (280 H)))
def fm8(a:K):20e0=0\/20e0=1\/20e0=2\/20e0=3\/20e0=4\/20e0=5\/20e0=6\/20e0=7:=ux (C:=λz=>z=0\/z=1\/z=2\/z=3\/z=4\/z=5\/z=6\/z=7) a 8 ap ⟨(126 ⟨(126 (126 dZ 2e6 15e6) 36e9 (.aD 36e9)),31e2⟩ (.aD 31e2) (79 31e2)),.aD (79 (280 H))⟩
def anY(a:K):12e7=0\/12e7=1\/12e7=2\/12e7=3\/12e7=4\/12e7=5\/12e7=6\/12e7=7\/12e7=8\/12e7=9\/12e7=10\/12e7=11:=ux (C:=λz=>z=0\/z=1\/z=2\/z=3\/z=4\/z=5\/z=6\/z=7\/z=8\/z=9\/z=10\/z=11) a 12 ap ⟨(126 ⟨(126 ⟨(126 ⟨(126 dZ 2e6 15e6),36e9⟩ (.aD 36e9) 31e2),.aD 31e2⟩ (79 31e2) (.aD (79 31e2))),280 31e2⟩ (.aD (280 31e2)) (280 (79 31e2))),.aD (79 (280 (280 H)))⟩
def Ds(e:ko as=ko yZ)(h:cr av d f as v):cr av d f yZ v:=λO T=>ut (λs s s r=>v6 e.bh r) (h O T)
def anZ(e:dE v=dE v')(h:cr av d f as v):cr av d f as v':=λO T=>Wg (λs s s r=>o5 e r) (h O T)
def jf{b9:6e1}(dh:∀O T,152 av n d f as O o= 93 v O b9)(s:13e1)(h:(lk ft f).iq=true)(e:dE v=dE v'):cr av d f as v':=anZ e λO T=>iY (dh O T) s (iZ h)
def Dt(T:0e1):Prop:=∀k v,19e1=2e5->∀g:I->I,g 0=0->cJ g v=v
def iy(d f:I)(as:0e0):Prop:=∃d4,ma d4/\d4.U<=6/\(∀g,bP g d4=d4)/\∀B ft T,(∀g,bP g B=B)->Dt T->121 d (22 f as) [5e0] T (6 d4) [5e0] T
def an0{b9:6e1}(h:iA r= 93 v [o] b9):∃s,r= .aS (.v v) ⟨o::s,T,[]⟩ b9:=by
 cases r with
 |aS a F ob=>
  obtain⟨O,k,oc⟩:=F;(show hT (Eq.mp (R.aS.fu ..) h) λe u x=>?_;subst e;subst x);(show hT (Eq.mp (MS.mk.fu ..) u) λh1 b x=>?_;subst b;subst x);cases O with
  |aQ=>cases h1
  |aP p s=>
   rw[D.take_succ_cons,D.take_zero]at h1;cases h1;exact⟨s,H⟩
 |a7 i F ob=>cases h
 |no w=>cases h
def an1{B:0e0}{ft:al}{s:1e0}{T:0e1}(x:∀g,bP g B=B)(h:Dt T):gb 1 (5e0::s) [5e0] T T (gm [0] (.ay B ft::s:1e0).U):=
 gb.sD (fV:=[0]) (by
  refine [G (eI 5e0)]=[G (eI (f9 _ 5e0))]
  refine [G (eI _)]=[G (eI (.ay (bP _ _) _))];rw[x]) (by simp) (λk v e=>⟨v,e,by rw[h k v e _ H]⟩) H
def jg{o:0e0->al->2e1}{b9:0e0->al->6e1}(hd:ma zi)(b:zi.U<=6)(k:∀g,bP g zi=zi)(a:∀g,bP g d4=d4)
  (dh:∀B ft T,iA (apy av n d (22 f as) ⟨[5e0],T,o B ft⟩)= 93 (.ad d4 t) [5e0] (b9 B ft)) (ho:∀B ft,(∀g,bP g B=B)->∀p∈b9 B ft,p) (hk:(lk ft f).iq=true) (e:ko d4=ko zi):iy d f as:=by
 show⟨zi,hd,b,k,λB ft T s m=>?_⟩;show oE (an0 (dh B ft T)) λh hr=>?_;have S:=hR d n (22 f as) ⟨[5e0],T,o B ft⟩;rw[hr]at S;have S2:iI d (22 f as) ⟨[5e0],T,o B ft⟩ (.aS (.v (cJ (gm [0] (.ay B ft::h:1e0).U) (.ad d4 t))) ⟨5e0::h,T,[]⟩ (b9 B ft)):=by
  rw[show cJ _ (.ad d4 t)= .ad (bP _ d4) t from H,a];exact S
 show Wg (v:= .ad d4 t) (λx x x r=>o5 ?_ r) (Wc S2 (ho B ft s) (an1 s m) (iZ hk));refine V.ad _ true= 6 _;rw[e]
def mb(hd:ma d4)(s:d4.U<=6)(e:∀g,bP g d4=d4)(h:cr av d f as (6 d4)):iy d f as:=⟨d4,hd,s,e,λB ft T x x=>h _ T⟩
def ks(e:ko as=ko yZ)(h:iy d f as):iy d f yZ:=by
 (show sN h λd4 h1 h2 h3 x=>?_;try clear h);exact⟨d4,h1,h2,h3,λB ft T a b=>ut (λs s s r=>v6 e.bh r) (x B ft T a b)⟩
section
variable{r1 r2 r3 r4 r5:V}{a b c d:D apv}
def Xx(s:d3 r1 [] []):ma [r1]:=⟨λr h=>by rcases 52e7 with H;exact s.1,λB x h=>kW x s h⟩
def sG(s:d3 r1 [] a)(h2:d3 r2 a []):ma [r1,r2]:=⟨237 s.1 h2.1 mN,λB x h=>252 s (kW x h2 h)⟩
def oh(s:d3 r1 [] a)(h2:d3 r2 a b)(h3:d3 r3 b []):ma [r1,r2,r3]:=⟨mE s.1 (237 h2.1 h3.1 mN),λB x h=>252 s (252 h2 (kW x h3 h))⟩
def sH(x:d3 r1 [] a)(h2:d3 r2 a b)(h3:d3 r3 b c)(s:d3 r4 c []):ma [r1,r2,r3,r4]:=⟨237 x.1 h2.1 (237 h3.1 s.1 mN),λB e h=>252 x (252 h2 (252 h3 (kW e s h)))⟩
def Du(x:d3 r1 [] a)(h2:d3 r2 a b)(h3:d3 r3 b c)(s:d3 r4 c d)(e:d3 r5 d []):ma [r1,r2,r3,r4,r5]:=⟨237 x.1 h2.1 (237 h3.1 s.1 (mE e.1 mN)),λB r h=>252 x (252 h2 (252 h3 (252 s (kW r e h))))⟩
universe e
abbrev d6(n:K):V:= .X [5e8,0e3]
def jh:d3 (d6 n) [] [.cz]:=Dp ap
def oi:d3 (d6 n) [q] [.cz,q]:=Dp (ts:=[q]) (by refine 1<=5;decide)
def rd:d3 (d6 n) [q,r] [.cz,q,r]:=Dp (ts:=[q,r]) (by refine 2<=5;decide)
def zj(d:I)(a:K):∃n,cr av (d+1) 1344 [0e2] 0e3:=by
 have h:20e0=0\/20e0=1\/20e0=2\/20e0=3\/20e0=4\/20e0=5\/20e0=6\/20e0=7:=fm8 _;have x:∃n u,dm [0e7,1e3,12e9,0 2147483647,0 (-2147483648),0 255,0 (-129),2 (a.ah 1000)] 20e0=G (.y n u):=by
  rcases h with s|s|s|s|s|s|s|s<;>rw[s]<;>exact⟨_,_,H⟩
 show qe x λn u x=>?_;exact⟨n,334 (adm av d O T a n u) (129 H H x) cH⟩
def zk(d:I)(t b:K):∃(p n:K) (q:al),cr av (d+1) 1351 [2 t,2 b] (6 [.X [0 p,.y n q]])/\∀ts:D apv,ts.U<=5->108 [0 p,.y n q] ts (22e4::ts):=by
 by_cases x:t=1
 ·subst x;by_cases s:b.ah 2=0
  ·exact⟨32,0,false,Ds (as:=[1e3,2 b]) cH (334 (adn av d O T b) (24 H 54e3) cH),λts h=>anH h⟩
  ·exact⟨208,-17,true,Ds (as:=[1e3,2 b]) cH (334 (ado av d O T b) (24 H (uy s)) cH),λts h=>Xq 21e6 h⟩
 ·have a:22e4= .rf:=d5 x;rw[a];have e:(t==1)=false:=uy x;by_cases s:b.ah 3=0
  ·exact⟨208,-16,true,334 (adp av d O T t b) (129 e H 54e3) cH,λts h=>Xq 2e6 h⟩
  ·exact⟨210,(b.aK 3).ah 6,true,334 (adq av d O T t b) (ac e (28 H (uy s) H H)) cH,λts h=>anG (by rw[l9 _ ap];exact⟨K.nh _ ap,K.n8 _ ap⟩) h⟩
def Dv(d:I)(a m:K)(hm:m=6\/m=17\/m=18):∃x app z,cr av (d+1) 1358 [0e2,0 m] (6 [d6 x,40e7,d6 z]):=by
 show⟨a.ah m,(a.aK m).ah m,(a.aK (m^2)).ah 8,Ds (as:=[0e2,2 m]) cH (334 (t_three av d O T a m) ?_ cH)⟩;rcases hm with H|rfl|rfl<;>exact(ac H (ac H (ac H (ac H (ac H (ac H a4))))))
def Xy(hd:d=0\/d=1)(a:K):iy 38 1363 [0 d,0e2]:=by
 have h:12e7=0\/12e7=1\/12e7=2\/12e7=3\/12e7=4\/12e7=5\/12e7=6\/12e7=7\/12e7=8\/12e7=9\/12e7=10\/12e7=11:=anY _;have x:∃c,c∈xO/\dm [0 40,0 41,0 44,0 45,0 46,0 47,0 48,0 49,0 50,0 51,0 52,0 53] 12e7=G 1e5:=by
  rcases h with s|s|s|s|s|s|s|s|s|s|s|s
  ·exact(130 40)
  ·exact(130 41)
  ·exact(130 44)
  ·exact(130 45)
  ·exact(130 46)
  ·exact(130 47)
  ·exact(130 48)
  ·exact(130 49)
  ·exact(130 50)
  ·exact(130 51)
  ·exact(130 52)
  ·exact(130 53)
 show aM x λc x s=>?_;have b:vp c=1\/vp c=2\/vp c=3\/vp c=4:=by unfold vp;split<;>(try split)<;>lia
 exact jg (oh jh (row_ld x (wl ((a.aK 12).aK 17) 3 ap)) (lF b)) 24e5 28e4 28e4 (λB ft T=>t_ol av hd x T B ft a) (λB ft e=>(84 H s (28 H H H H))) ar cH
def Xz(hd:d=2\/d=3)(a:K):iy 38 1363 [0 d,0e2]:=by
 show oE (zj 36 ((12e1).aK 34)) λn b=>?_;have h3:(12e1).ah 3=0\/(12e1).ah 3=1\/(12e1).ah 3=2:=rc _;have hm:∃m u,dm [0e3,2 ((9223372036854775807:K)-12e1),2 ((-9223372036854775808:K)+12e1)] ((12e1).ah 3)=G (.y m u):=by
  rcases h3 with h3|h3|h3<;>rw[h3]<;>exact⟨_,_,H⟩
 show qe hm λm u hm=>?_;have h:19e9=0\/19e9=1\/19e9=2\/19e9=3\/19e9=4\/19e9=5\/19e9=6:=fm7 _;have x:(∃c,c∈Kv/\dm [0 54,0 55,0 58,0 59,0 60,0 61,0 62] 19e9=G 1e5)\/∃c,c∈Kw/\dm [0 54,0 55,0 58,0 59,0 60,0 61,0 62] 19e9=G 1e5:=by
  rcases h with s|s|s|s|s|s|s
  ·exact .a2 (130 54)
  ·exact .aD (130 55)
  ·exact .a2 (130 58)
  ·exact .a2 (130 59)
  ·exact .aD (130 60)
  ·exact .aD (130 61)
  ·exact .aD (130 62)
 rcases x with⟨c,x,s⟩|⟨c,x,s⟩
 ·exact jg (oh jh oi (row_st x (wl ((12e1).aK 17) 2 ap))) 24e5 28e4 28e4 (λB ft T=>t_os av hd x T B ft a n) (λB ft e=>(69 H s H H b H H H a4)) ar cH
 ·exact jg (oh jh (q9 (n:=m) (ts:=[.cz]) ap) (row_st' x (wl ((12e1).aK 17) 2 ap))) 24e5 28e4 28e4 (λB ft T=>t_ou av hd x T B ft a n m u) (λB ft e=>(84 H s (69 H H b H hm H H H a4))) ar cH
def an2(a:K):iy 38 1363 [10e8,0e2]:=191 [.X [0 63],.X [4e0,1e3]] (sG row_msz (186 1)) 28e2 (t_o4 av 36 O T a) a4
def an3(a:K):iy 38 1363 [3e8,0e2]:=by
 have h:38e1=0\/38e1=1\/38e1=2\/38e1=3:=Xv _;have x:∃n u,dm [0e7,1e3,1e8,12e9] 38e1=G (.y n u):=by
  rcases h with s|s|s|s<;>rw[s]<;>exact⟨_,_,H⟩
 show qe x λn u x=>?_;exact 191 [d6 n,.X [17e2],.X [4e0,1e3]] (oh jh row_mgr (186 1)) 28e4 (t_o5 av 36 O T a n u) (24 H x)
def an4(a:K):iy 38 1363 [0 6,0e2]:=191 [d6 (a.ah 18),d6 (((a.aK 18).ah 700)-100),d6 ((a.aK 12600).ah 7),.X [16e1]] (sH jh oi (anF (ts:=[.cz,.cz]) (by rw[l9 _ ap];lia) ap) row_mfl) 28e2 (t_o6 av 36 O T a) (ac H (28 H H H H))
def an5(a:K):iy 38 1363 [16e9,0e2]:=by
 show nn (Dv 36 a 18 (79 H)) λx app z h=>?_;exact 191 [d6 x,40e7,d6 z,.X [20e9]] (sH jh oi rd row_mcp) 28e2 (t_o7 av 36 O T a (d6 x) 40e7 (d6 z)) (24 h ap)
def an6(a:K):iy 38 1363 [0 8,0e2]:=by
 show nn (Dv 36 (a.aK 2) 17 15e6) λx app z h=>?_;have hr:21e2=0\/21e2=1:=zh _;have s:ia 21e2:=hr;exact 191 [d6 x,40e7,d6 z,.X [8e6,0 21e2]] (sH jh oi rd (anV s)) 28e4 (t_o8 av 36 O T a (d6 x) 40e7 (d6 z)) (28 H h H ap)
def an7(a:K):iy 38 1363 [0 9,0e2]:=by
 have hr:21e2=0\/21e2=1:=zh _;have s:ia 21e2:=hr;exact 191 [.X [48e7,0 21e2]] (Xx (anU s)) 41e9 (t_o9 av 36 O T a) (39 H)
def an8(a:K):iy 38 1370 [0 12,0e2]:=by
 have hr:8e2=0\/8e2=1\/8e2=2:=rc _;have s:ed 8e2:=hr;by_cases h1:8e2=1
 ·exact 191 [d6 ((16e2).ah 8),.X [38e2,49e4],.X [4e0,10e8]] (oh jh (Xr s) (186 4)) 41e9 (t_e12_0 av 36 O T a) (28 H H H (by rw[h1];rfl))
 ·exact 191 [d6 ((16e2).ah 8),.X [38e2,49e4],.X [4e0,3e4]] (oh jh (Xr s) (186 3)) 41e9 (t_e12_1 av 36 O T a) (28 H H H (uy h1))
def an9(a:K):iy 38 1370 [0 13,0e2]:=by
 show ol (zk 36 8e2 (25e9 8)) λp n q h x=>?_;have hr:8e2=0\/8e2=1\/8e2=2:=rc _;have s:ed 8e2:=hr;exact 191 [d6 ((16e2).ah 8),.X [0 p,.y n q],.X [0 38,49e4]] (oh jh (x [.cz] ap) (anP s)) 28e4 (t_e13 av 36 O T a (.X [0 p,.y n q])) (ac H (84 H H (28 H h ap ap)))
def aoa(a:K):iy 38 1370 [0 14,0e2]:=by
 have hr:8e2=0\/8e2=1\/8e2=2:=rc _;have s:ed 8e2:=hr;exact 191 [.X [48e8,49e4],.X [4e0,1e3]] (sG (anQ s) (186 1)) 41e9 (t_e14 av 36 O T a) (24 H H)
def aob(a:K):iy 38 1370 [0 15,0e2]:=by
 show ol (zk 36 8e2 16e2) λp n q b x=>?_;have s:(25e9 18).ah 5=0\/(25e9 18).ah 5=1\/(25e9 18).ah 5=2\/(25e9 18).ah 5=3\/(25e9 18).ah 5=4:=Xw _;have h:∃m u,dm [0e7,1e3,1e8,3e4,12e9] ((25e9 18).ah 5)=G (.y m u):=by
  rcases s with s|s|s|s|s<;>rw[s]<;>exact⟨_,_,H⟩
 show qe h λm u h=>?_;have hr:8e2=0\/8e2=1\/8e2=2:=rc _;have e:ed 8e2:=hr;exact 191 [.X [0 p,.y n q],d6 m,.X [39e3,49e4],.X [4e0,1e3]] (sH (x [] ap) oi (anR e) (186 1)) 52e2 (t_e15 av 36 O T a m u (.X [0 p,.y n q])) (ac H (136 H b H H (84 h ap a4)))
def aoc(a:K):iy 38 1370 [4e0,0e2]:=by
 show ol (zk 36 8e2 (25e9 6)) λp n q h x=>?_;have hr:8e2=0\/8e2=1\/8e2=2:=rc _;have s:ed 8e2:=hr;exact 191 [d6 ((16e2).ah 6),.X [0 p,.y n q],d6 ((25e9 108).ah 5),.X [33e9,49e4]] (sH jh (x [.cz] ap) rd (anS s)) 28e4 (t_e16 av 36 O T a (.X [0 p,.y n q])) (ac H (69 H H H h ap H H ap a4))
def aod(a:K):iy 38 1370 [4e1,0e2]:=by
 show nn (Dv 36 (a.aK 5) 6 2e6) λx app z h=>?_;have hr:32e1=0\/32e1=1\/32e1=2\/32e1=3\/32e1=4:=Xw _;have e:∃i j,CP i j/\dm [.X [0e7,1e8],.X [1e8,0e7],.X [0e7,0e7],.X [1e3,1e3],.X [1e8,1e8]] 32e1=G (.X [6e5,0 j]):=by
  rcases hr with s|s|s|s|s
  ·exact(381 0 2)
  ·exact(381 2 0)
  ·exact(381 0 0)
  ·exact(381 1 1)
  ·exact(381 2 2)
 show gd e λi j b e=>?_;exact 191 [d6 x,40e7,d6 z,.X [28e7,6e5,0 j]] (sH jh oi rd (anW b)) 52e2 (t_e17 av 36 O T a i j (d6 x) 40e7 (d6 z)) (ac H (84 H H (28 e H h ap)))
def aoe(a:K):iy 38 1370 [0 18,0e2]:=by
 show nn (Dv 36 16e2 6 2e6) λx app z h=>?_;have hr:8e2=0\/8e2=1\/8e2=2:=rc _;have e:∃i j,IN i j/\dm [.X [0e7,0e7],.X [0e7,1e8],.X [1e3,1e3]] 8e2=G (.X [6e5,0 j]):=by
  rcases hr with s|s|s
  ·exact(415 0 0)
  ·exact(415 0 2)
  ·exact(415 1 1)
 show gd e λi j b e=>?_;exact 191 [d6 x,40e7,d6 z,.X [8e7,6e5,0 j]] (sH jh oi rd (row_tin b)) 52e2 (t_e18 av 36 O T a i j (d6 x) 40e7 (d6 z)) (ac H (28 H e h ap))
def aof(a:K):iy 38 1370 [8e3,0e2]:=by
 have hr:21e2=0\/21e2=1:=zh _;have s:ia 21e2:=hr;exact 191 [.X [48e9,0 21e2]] (Xx (anT s)) 41e9 (t_e19 av 36 O T a) (129 H H H)
def XA:Dt [(p,.y a t),(q,.y b u),(r,.y c w)]:=λk v h g s=>by
 have hm:=iW h;clear h;simp only[D.eR,kC.mk.fu,D.mn,mo]at hm;rcases hm with⟨_,H⟩|⟨_,H⟩|⟨_,H⟩<;>rfl
def aog(h:0<=k/\k<10):iy 38 1363 [2 k,0e2]:=Om 10 (C:=λk=>iy 38 1363 [2 k,0e2]) h.1 h.2 ⟨(126 ⟨(126 (126 (126 dZ (181 [0e7,0e2] (Xy 2e6 a)) (181 [1e3,0e2] (Xy 21e6 a))) (181 [1e8,0e2] (Xz 2e6 a)) (181 [3e4,0e2] (Xz 21e6 a))) (181 [10e8,0e2] (an2 a)) (181 [3e8,0e2] (an3 a))),181 [0 6,0e2] (an4 a)⟩ (181 [16e9,0e2] (an5 a)) (181 [0 8,0e2] (an6 a))),181 [0 9,0e2] (an7 a)⟩
def aoh(h:12<=k/\k<20):iy 38 1370 [2 k,0e2]:=Om 20 (C:=λk=>12<=k->iy 38 1370 [2 k,0e2]) (K.dV ap h.1) h.2 (404 (404 (404 (404 ⟨⟨⟨⟨⟨⟨⟨⟨⟨⟨⟨⟨dZ,λh=>bL h ap⟩,λh=>bL h ap⟩,λh=>bL h ap⟩,λh=>bL h ap⟩,λh=>bL h ap⟩,λh=>bL h ap⟩,λh=>bL h ap⟩,λh=>bL h ap⟩,λh=>bL h ap⟩,λh=>bL h ap⟩,λh=>bL h ap⟩,λh=>bL h ap⟩ [0 12,0e2] (an8 a) (181 [0 13,0e2] (an9 a))) [0 14,0e2] (aoa a) (181 [0 15,0e2] (aob a))) [4e0,0e2] (aoc a) (181 [4e1,0e2] (aod a))) [0 18,0e2] (aoe a) (181 [8e3,0e2] (aof a))) h.1
def aoi(x:K):iy 39 1377 [6e6]:=by
 have P:0<=7e6/\7e6<24:=⟨wl x 24 ap,Ol x 24 ap⟩;by_cases h1:7e6<10
 ·show sN (aog (k:=7e6) (a:=30e8) ⟨P.1,h1⟩) λd4 d1 d i l=>?_;exact jg d1 d i i (λB ft T=>t_do av T B ft x d4) (λB ft e=>(28 H H (eE h1) (l B ft _ e XA))) ar H
 have g1:=fX h1;by_cases h2:7e6=10
 ·have hr:19e0 3=0\/19e0 3=1\/19e0 3=2:=rc _;rcases hr with h|h|h
  ·exact 170 (372 [16e3,0e7] [4e0,1e3] anJ (186 1)) (Kx av T B ft x) (84 H H (28 g1 (by rw[h2];rfl) H H)) 47e6
  ·exact 170 (372 [16e3,1e3] [4e0,1e8] anL (186 2)) (Kx av T B ft x) (84 H H (28 g1 (by rw[h2];rfl) H H)) 47e6
  ·exact 170 (372 [16e3,1e8] [4e0,3e4] anN (186 3)) (Kx av T B ft x) (84 H H (28 g1 (by rw[h2];rfl) H H)) 47e6
 have g2:=uy h2;by_cases h3:7e6=11
 ·have hr:19e0 3=0\/19e0 3=1\/19e0 3=2:=rc _;rcases hr with h|h|h
  ·show oE (zj 37 (11e4 3)) λn b=>?_;exact 170 (372 [5e8,0e3] [21e4,0e7] (Dp ap) anK) (QR av T B ft x n 0e6) (136 H H g1 g2 (69 (by rw[h3];rfl) H 33e5 H H b H ap a4)) 47e6
  ·show oE (zj 37 (11e4 3)) λn b=>?_;exact 170 (372 [21e5,0e3] [21e4,1e3] (q9 ap) anM) (QR av T B ft x n 0e6) (69 H H g1 g2 (by rw[h3];rfl) H 33e5 H (136 H b H ap a4)) 47e6
  ·show ol (zk 37 0 (11e4 3)) λp n q c j=>?_;exact 170 (372 [0 p,.y n q] [21e4,1e8] (j [] ap) anO) (t_d11_0 av T B ft x 0 (.X [0 p,.y n q])) (ac H (69 H g1 g2 (by rw[h3];rfl) H 33e5 H (Ds (as:=[12e8,328 3]) cH c) (84 H ap a4))) 47e6
 have g3:=uy h3;by_cases o:7e6<20
 ·show sN (aoh (k:=7e6) (a:=30e8) ⟨bM,o⟩) λd4 d1 d i l=>?_;exact jg d1 d i i (λB ft T=>t_de av T B ft x d4) (λB ft e=>(ac H (84 H g1 (28 g2 g3 (eE o) (l B ft _ e XA))))) ar H
 have r:=fX o;by_cases t:7e6=20
 ·show ol (zk 37 (19e0 2) (11e4 2)) λp n q c j=>?_;have z:=amL (19e0 2);exact 170 (oh (r1:= .X [0 p,.y n q]) (r2:= .X [43e1]) (r3:= .X [4e0,1e3]) (j [] ap) (anI z) (186 1)) (t_d20 av T B ft x (.X [0 p,.y n q])) (ac H (84 H g1 (69 g2 g3 r (by rw[t];rfl) H H c ap a4))) cH
 have v:=uy t;show oE (zj 37 30e8) λn b=>?_;show oE (zj 37 (11e4 8)) λm hm=>?_;by_cases app:7e6=23
 ·exact 170 (sH (r1:=d6 n) (r2:= .X [21e5,2 m]) (r3:= .X [4e0,3e8]) (r4:= .X [4e0,1e8]) jh (q9 (ts:=[.cz]) ap) row_far (186 2)) (t_d23 av T B ft x n m) (84 H H (136 g1 g2 g3 r (84 v b (136 H hm (by rw[app];rfl) ap a4)))) cH
 have u:=uy app;have hr:19e0 4=0\/19e0 4=1\/19e0 4=2\/19e0 4=3:=Xv _;have g:(11e4 4).ah 2=0\/(11e4 4).ah 2=1:=zh _;rcases g with w|w
 ·rcases hr with h|h|h|h
  ·exact 170 (400 (d6 n) (.X [21e5,2 m]) (d6 ((11e4 8).ah 8)) (.X [4e1,3e8,0e7]) (.X [4e0,1e8]) jh (q9 (ts:=[.cz]) ap) rd (186 2)) (Be av T B ft x n m 0) (69 H H g1 g2 g3 r v b (69 H hm u H 33e5 H H H (136 H 41e7 ap ap a4))) cH
  ·exact 170 (400 (d6 n) (.X [21e5,2 m]) (d6 ((11e4 8).ah 8)) (.X [4e1,3e8,0e7]) (.X [4e0,1e8]) jh (q9 (ts:=[.cz]) ap) rd (186 2)) (Be av T B ft x n m 0) (69 H H g1 g2 g3 r v b (136 H hm u H (69 33e5 H H H H 41e7 ap ap a4))) cH
  ·exact 170 (oh (r1:=d6 n) (r2:=d6 ((11e4 8).ah 8)) (r3:= .X [4e1,1e3,0e7]) jh oi 53e5) (QS av T B ft x n m 0) (136 H H g1 g2 (69 g3 r v b H hm u H (69 33e5 H H H H 41e7 ap ap a4))) cH
  ·exact 170 (oh (r1:= .X [21e5,2 m]) (r2:=d6 ((11e4 8).ah 8)) (r3:= .X [4e1,1e8,0e7]) (q9 ap) oi 53e5) (QT av T B ft x n m 0) (69 H H g1 g2 g3 r v b (136 H hm u H (69 33e5 H H H H 41e7 ap ap a4))) cH
 ·rcases hr with h|h|h|h
  ·exact 170 (400 (d6 n) (.X [21e5,2 m]) (d6 ((11e4 8).ah 8)) (.X [4e1,3e8,1e8]) (.X [4e0,1e8]) jh (q9 (ts:=[.cz]) ap) rd (186 2)) (Be av T B ft x n m 2) (136 H H g1 g2 (69 g3 r v b H hm u H (69 33e5 H H H H 41e7 ap ap a4))) cH
  ·exact 170 (400 (d6 n) (.X [21e5,2 m]) (d6 ((11e4 8).ah 8)) (.X [4e1,3e8,1e8]) (.X [4e0,1e8]) jh (q9 (ts:=[.cz]) ap) rd (186 2)) (Be av T B ft x n m 2) (ac H (84 H g1 (69 g2 g3 r v b H hm u (ac H (69 33e5 H H H H 41e7 ap ap a4))))) cH
  ·exact 170 (oh (r1:=d6 n) (r2:=d6 ((11e4 8).ah 8)) (r3:= .X [4e1,1e3,1e8]) jh oi 53e5) (QS av T B ft x n m 2) (69 H H g1 g2 g3 r v b (136 H hm u H (69 33e5 H H H H 41e7 ap ap a4))) cH
  ·exact 170 (oh (r1:= .X [21e5,2 m]) (r2:=d6 ((11e4 8).ah 8)) (r3:= .X [4e1,1e8,1e8]) (q9 ap) oi 53e5) (QT av T B ft x n m 2) (69 H H g1 g2 g3 r v b (69 H hm u H 33e5 H H H (136 H 41e7 ap ap a4))) cH
def zl:15e5:=match Qi.cW with
 | [_,.mr _ _ b,_,_]=>b
 |_=>[]
def Dw:Tk->al:=λtk=>match tk with
 | .gj _ _ _ _=>true
 |_=>false
abbrev uz(S:0e0):0e1:=[(93,4e5),(38,.Z 0)]
def aoj(P:PP)(S B s:0e0)(ft:al)(i:K):115 P 60 39 (.ss zl) [5e0] [(93,4e5),(38,.Z 0),(54,14e8)] [261 1377 (6 s) [5e0]]= 20 24e4 [37 (B++s)] [(93,4e5),(38,.Z 0),(54,14e8)] [] [9 i 100000007=true,P 39 (22 1377 [2 (i.ah 100000007)]) [5e0] [(93,4e5),(38,.Z 0),(54,14e8)] (36 (6 s) [5e0] [(93,4e5),(38,.Z 0),(54,14e8)]),(B++s).U<=16777216]:=by cases ft<;>kernel_rfl
def aok(P:PP)(T:0e1)(S B:0e0)(ft:al):152 P 60 40 1384 [4e5] [] [299 Dw (52 [5e0] l),1e9]= 139 (B++[.X [21e3]]) [5e0] [(46e6).U<=16777216,P 39 (.gj (.n 54) (357 46e6) 0 zl) [2e0] [(93,4e5),(38,.Z 0)] (52 [5e0] [(93,4e5),(38,.Z 0)]),bJ ((6:K)<(S.U:K))=false,(B++[V.X [21e3]]).U<=16777216]:=by cases ft<;>kernel_rfl
def aol(P:PP)(T:0e1)(S B:0e0)(x t:K):152 P 60 40 1384 [4e5] [] [299 Dw (52 [37 B] l),6e7,.v 6e6,.v 6e6,.v 6e6,.v 1e1]= 139 ((B++[.X [5e8,50e2],.X [5e8,38 45e7 7],.X [8e3,1e3,1e1]])++[.X [21e3]]) [37 (B++[.X [5e8,50e2],.X [5e8,38 45e7 7],.X [8e3,1e3,1e1]])] [(46e6).U<=16777216,P 39 (.gj (.n 54) (357 46e6) 0 zl) [2e0] [(93,4e5),(38,.Z 0)] (52 [37 B] [(93,4e5),(38,.Z 0)]),bJ ((6:K)<(S.U:K))=true,(dm S 6)=G 6e6,9 x 100=true,(dm S 6)=G 6e6,15 x 100=true,9 45e7 7=true,(dm S 6)=G 6e6,15 x 700=true,9 (x.aK 700) 2=true,(dm [0e7,1e8] ((x.aK 700).ah 2))=G 1e1,((B++[V.X [5e8,50e2],.X [5e8,38 45e7 7],.X [8e3,1e3,1e1]])).U<=16777216,(((B++[V.X [5e8,50e2],.X [5e8,38 45e7 7],.X [8e3,1e3,1e1]])++[V.X [21e3]])).U<=16777216]:=ar
def uA(r:V):Prop:=∃c aC,r=V.X (1e5::aC)/\c∈11::19::jQ
def Do.b{r:V}(h:Do r):uA r:=by
 (show gd h λc aC e s=>?_;try clear h);exact⟨c,aC,e,54 (54 s)⟩
def ma.aQ:ma []:=⟨λs h=>(nomatch h),λB s h=>h⟩
def ma.lV{a b:0e0}(p:ma a)(s:ma b):ma (a++b):=⟨λr h=>(300 h) (p.1 r) (s.1 r),λB x h=>by
 rw[D.eO]
 exact p.2 (b++B) (λe=>x (D.append_eq_nil_iff.mp e).2) (s.2 B x h)⟩
def wm{f:I->I}{a b:0e0}:bP f (a++b)=bP f a++bP f b:=by rw[lE,lE,lE,D.sz]
def aom{S:0e0}{i:K}(s:∀g,bP g S=S):Dt (uz S++[(54,14e8)]):=λk v h g g0=>by
 have hm:=iW h;clear h;simp only[uz,D.NS,D.uP,D.eR,kC.mk.fu,D.mn,mo]at hm;rcases hm with⟨_,H⟩|⟨_,H⟩|⟨_,H⟩
 ·exact bB (V.ad · _) (s _)
 ·exact bB V.Z g0
 ·rfl
def XB{apt:0e0}{k:I}{o:9e6}(h:apt[k]? =o):∀F,It.at F (357 apt) k=0e4:=λF=>by
 refine G apt[k]? =_;rw[h]
def aon{apt S:0e0}(hL:∀v∈apt,∃i,v=37e8)(app:∀g,bP g S=S)(n:I):∀(k:I) (B:0e0) (ft:al),n+k=apt.U->(∀g,bP g B=B)->B.U+6*n<=10000->∃d4 b,(ft=true\/0<n->b=true)/\ma d4/\d4.U<=6*n/\(∀g,bP g d4=d4)/\av 39 (.gj (.n 54) (357 apt) k zl) [5e0] (uz S) (52 [.ay (B++d4) b] (uz S)):=by
 induction n with
 |i4=>
  intro k B ft q x d;show⟨[],ft,λh=>?_,.aQ,32e0,λg=>rfl,?_⟩
  ·rcases h with h|h
   ·exact h
   ·lia
  ·rw[D.dY];exact NE (XB (D.q4 bM))
 |hH n c=>
  intro k B ft q x d;have a:k<apt.U:=bM;show oE (hL apt[k] (D.N1 a)) λi u=>?_;show sN (aoi (i.ah 100000007)) λr1 d1 P e p=>?_;have t:∀g,bP g (B++r1)=B++r1:=λg=>by rw[wm,x,e]
  have r:(B++r1).U+6*n<=10000:=by rw[D.hN];lia
  show uC (c (k+1) (B++r1) true bM t r) λr2 bN e1 e2 e3 e4 e5=>?_;have w:=e1 2e6;subst w;show⟨r1++r2,true,λs=>rfl,d1.lV e2,by rw[D.hN];lia,λg=>by rw[wm,e,e4],?_⟩;have dh:=aoj av S B r1 ft i;have ss:av 39 (.ss zl) [5e0] (uz S++[(54,14e8)]) (52 [37 (B++r1)] (uz S)):=by
   show v8 (a3:= 24e4) (f:=λi=>i) dh (129 H (p B ft _ x (aom app)) (by rw[D.hN];rw[D.hN]at r;lia)) ?_;exact⟨⟨λj o h=>⟨o,h,by rw[ur]⟩,λj h=>h,λj z s s h=>h,λk v h=>⟨v,wa (l:=uz S) (m:=[(54,37e8)]) h,by rw[n5]⟩⟩,λs s=>rfl,11e7⟩
  rw[<-D.eO];exact yY (XB (by rw[D.ic a,u])) (λo=>rfl) ss e5
def aoo{α:Type}{l:8e4}{a b:8e5}{v:α}(h:v∈bD l a b):v∈l:=D.U6 (D.U7 h)
def XC{α:Type}{l:8e4}{a b:8e5}:(bD l a b).U<=l.U:=by
 unfold bD;rw[D.qP,D.sf];exact I.dV (I.Sd ..) (I.Se ..)
def aop{S:0e0}{v:V}{n:I}(h:S[n]? =2e5):dm S (n:K)=2e5:=h
def aoq{α:Type}{S:8e4}(h:6<S.U):(46e6).U=6:=by
 unfold bD;have e:xr (G 6) S.U=6:=by refine xq 6 S.U=6;rw[NT (394 6) bM];rfl
 rw[e,D.qP,D.sf];refine min (6-0) (S.U-0)=6;lia
def aor{S:0e0}(m:∀v∈S,∃i,v=37e8)(app:S.U<=63)(o:∀g,bP g S=S):∃B B2 bN,qc B []/\(∀r∈B,uA r)/\B.U<=1000/\(∀g,bP g B=B)/\(∀g,bP g B2=B2)/\∀T,121 40 (22 1384 [4e5]) [] T 9e0 [28e0] T:=by
 show uC (aon (apt:=46e6) (λv h=>m v (aoo h)) o (46e6).U 0 [] false H (λf=>rfl) (by have:=XC (l:=S) (a:=L) (b:=G 6);simp only[D.sk];lia)) λd4 ft e1 e2 e3 e4 e5=>?_;have d:=XC (l:=S) (a:=L) (b:=G 6);by_cases p:6<S.U
 ·have c:=aoq p;have w:=e1 (.aD bM);clear e1;subst w;show oE (m S[6] (D.N1 p)) λx j=>?_;have e:dm S 6=G 6e6:=aop (n:=6) (by rw[D.ic p,j]);have s:((x.aK 700).ah 2=0\/(x.aK 700).ah 2=1):=zh _;have ef:∀t:K,(dm [0e7,1e8] ((x.aK 700).ah 2))=G 1e1->qc [.X [8e3,1e3,1e1],.X [21e3]] [.cz,.cz]->∃B B2 bN,qc B []/\(∀r∈B,uA r)/\B.U<=1000/\(∀g,bP g B=B)/\(∀g,bP g B2=B2)/\∀T,121 40 (22 1384 [4e5]) [] T 9e0 [28e0] T:=by
   intro t u q;have k:∀g,bP g ((d4++[V.X [5e8,50e2],.X [5e8,38 45e7 7],.X [8e3,1e3,1e1]])++[.X [21e3]])=(d4++[V.X [5e8,50e2],.X [5e8,38 45e7 7],.X [8e3,1e3,1e1]])++[.X [21e3]]:=λg=>by rw[wm,wm,e4];rfl
   show⟨_,_,_,?_,?_,?_,k,?_,λT=>iY (aol av T S d4 x t) (84 bM e5 (136 (eE bM) e H e (69 H H e H H u ?_ ?_ a4))) 17e5⟩
   ·rw[D.eO];exact e2.2 _ (D.mJ _ _) (252 jh (252 oi q))
   ·exact λr h=>(300 h) (λh=>(300 h) (λh=>(e2.1 r h).b) (λh=>by simp only[D.eR,D.mn,mo]at h;rcases h with H|rfl|rfl<;>exact⟨_,_,H,ap⟩)) (λh=>by rcases 52e7 with H;exact⟨_,_,H,ap⟩)
   ·simp only[D.hN,D.m6,D.sk];lia
   ·exact λg=>by rw[wm,e4];rfl
   ·simp only[D.hN,D.m6,D.sk];lia
   ·simp only[D.hN,D.m6,D.sk];lia
  rcases s with s|s
  ·exact ef 0 54e3 (Xt 2e6)
  ·exact ef 2 54e3 (Xt 21e6)
 ·have k:∀g,bP g (d4++[V.X [21e3]])=d4++[V.X [21e3]]:=λg=>by rw[wm,e4];rfl
  show⟨_,_,_,?_,?_,?_,k,e4,λT=>iY (aok av T S d4 ft) (28 bM e5 (fX bM) ?_) 17e5⟩
  ·exact e2.2 _ (D.mJ _ _) anX
  ·exact λr h=>(300 h) (λh=>(e2.1 r h).b) (λh=>by rcases 52e7 with H;exact⟨_,_,H,ap⟩)
  ·simp only[D.hN,D.m6,D.sk];lia
  ·simp only[D.hN,D.m6,D.sk];lia
def aJ.On{O oj:1e0}{T mH:0e1}{bE d:2e1}(R:160 (62 bE))(j:O.aj eI=oj.aj eI)(n:∀k w,19 mH=G w->∃v,19e1=2e5/\dE v=dE w):160 ⟨oj,mH,d⟩:=by
 have f:O.U=oj.U:=by have:=bB D.U j;simpa using a9
 show⟨R.d7,R.cR.aU f,λi o p e1 e2=>?_,R.nd,R.gy,R.up,⟨?_,λk v a b=>?_⟩,R.bH,R.hK,R.b2,R.hj,R.gz,R.fx,R.dC,R.os,R.cV⟩
 ·have e:=bB (·[i]?) j;have e1:oj[i]? =0e4:=e1;simp only[D.nX,e1,aq.ta]at e;show aM 31e1 λo2 g1 g2=>?_;exact V6 g2 (R.O i o2 p g1 e2)
 ·obtain⟨m,l,t⟩:=R.bp.iN;exact⟨m,l,λk v a b=>(by show aM (n k v b) λv2 h r=>?_;exact(by show aM (t k _ a h) λu e q=>?_;exact⟨u,e,o5 r q⟩))⟩
 ·show aM (n k v b) λv2 h r=>?_;obtain(⟨c,u,e1,e2,e3,e4⟩):=200 k _ h;exact⟨c,u,e1,e2,o5 r e3,e4⟩
def aos(w:O.aj eI=oj.aj eI)(m:∀k n,19 mH=G n->∃v,19e1=2e5/\dE v=dE n)(h:av d (.s sm) oj mH bH):av d (.s sm) O T bH:=by
 intro o1 o2;show oA (h o1 o2) λh1 h2=>?_;exact⟨λk sc S q x J s Q EE Y p hz a r P=>h1 k sc S q x J s Q EE Y p hz a (r.On w m) P,λk sc apq B t b e c1 c2 x J s Q EE Y p hz a r P=>h2 k sc apq B t b e c1 c2 x J s Q EE Y p hz a (r.On w m) P⟩
def aot(w:O.aj eI=oj.aj eI)(p:∀k e,19 mH=G e->∃v,19e1=2e5/\dE v=dE e)(h:av d (.gj tg it i b) oj mH bH):av d (.gj tg it i b) O T bH:=by
 intro o1 o2 k sc apq B h1 h2 h3 x dB aB m s Q EE u wr Y q hz r n apv a b c P;exact h o1 o2 k sc apq B h1 h2 h3 x dB aB m s Q EE u wr Y q hz r (n.On w p) apv a b c P
def XD(t:al):∀l:D K,lP (264 (V.y i t))=G l
 | []=>rfl
 |i::l=>by refine(lP (264 (V.y i t))).aj (i:: ·)=_;rw[XD t l];rfl
def Oo:Tk->al:=λtk=>match tk with
 | .x e=>(e.xF.cq λp=>p.1.g?).fN (I.bX 97)
 |_=>false
def aou(P:PP)(d:I)(O:1e0)(S:0e0)(l:D K)(h:lP S=G l):115 P 9 d (.x (168 97 [35e6])) O [(93,4e5)] []= 20 (.v (2 l.lc)) O [(93,4e5)] [] []:=by
 have e:115 P 9 d (.x (168 97 [35e6])) O [(93,4e5)] []=mx (278 (278 (AX true "sum" [4e5] (198 [(93,4e5)] [])))):=ar;have s:AX true "sum" [4e5] (198 [(93,4e5)] [])= .Y (2 l.lc) (198 [(93,4e5)] []):=by
  refine gN ((G S).cq lP) 42 (λl=>R.Y (V.y l.lc true) _)=_;rw[aq.yh,h];rfl
 rw[e,s];rfl
def aov(dh:115 av n d (.x e) O T []= 93 v O []):121 d (.x e) O T v O T:=by
 have S:=hR d n (.x e) (62 []);rw[dh]at S;exact λo1 o2=>ajB (bH:= 36 v O T) (o2:=[]) S
def aow{d:I}{O:1e0}{hD:D K}:121 d (.x (168 97 [35e6])) O [(93,352 52e9)] (2 hD.lc) O [(93,352 52e9)]:=aov (aou av d O _ hD (XD true hD))
def Op:15e5:=match Qh.cW with
 | [_,.mr _ _ b,_]=>b
 |_=>[]
abbrev g3:1e0:=[6e4,6e4,2e0]
def qd(m:4e8)(t:1e0):1e0:=m 0::m 1::m 2::m 3::m 4::m 5::m 6::m 7::m 8::m 9::m 10::m 11::m 12::m 13::m 14::m 15::m 16::m 17::m 18::m 19::m 20::m 21::m 22::m 23::m 24::m 25::m 26::m 27::m 28::m 29::m 30::m 31::m 32::m 33::m 34::m 35::m 36::m 37::m 38::m 39::m 40::m 41::m 42::m 43::m 44::m 45::m 46::m 47::m 48::m 49::m 50::m 51::m 52::m 53::m 54::m 55::t
abbrev sI(B:0e0):0e1:=[(38,9e0),(39,30e0),(40,30e1),(41,.Z 58)]
def aox(P:PP)(m:4e8)(B r:0e0)(k:I)(c:K)(h:c∈11::19::jQ):124 P 34 Op ⟨qd m g3,sI B++[(42,0 k),(43,.X (1e5::r))],[]⟩= 57 ⟨qd m g3,sI B++[(42,0 k),(43,.X (1e5::r)),(6,1e5)],[]⟩ []:=by revert c h;show 3e1;kernel_rfl
def aoy{m:4e8}(p:∀r∈B,uA r)(n:I):∀k:I,n+k=B.U->av 34 (.gj (.t [42,43]) (.gL (.fA B)) k Op) (qd m g3) (sI B) (52 (qd m g3) (sI B)):=by
 induction n with
 |i4=>
  show λk a=>NE λF=>?_;refine G (B[k]?.aj λv=>V.X [0 k,v])=_;rw[D.q4 bM];rfl
 |hH n b=>
  intro k a;have x:k<B.U:=bM;show gd (p _ (D.N1 x)) λc r e w=>?_;show yY (v:= .X [0 k,.X (1e5::r)]) (o8:=sI B++[(42,0 k),(43,.X (1e5::r))]) (λF=>?_) (λo=>rfl) ?_ (b (k+1) bM)
  ·refine G (B[k]?.aj λv=>V.X [0 k,v])=_;rw[D.ic x,e];rfl
  ·show v8 (a3:= 24e4) (f:=λi=>i) (aox av m B r k c w) a4 ?_;exact⟨⟨λj o h=>⟨o,h,by rw[ur]⟩,λj h=>h,λj q s s h=>h,λk2 v h=>⟨v,wa (l:=sI B) (m:=[(42,V.y k false),(43,.X (1e5::r)),(6,1e5)]) h,by rw[n5]⟩⟩,λs s=>rfl,11e7⟩
def aoz(P:PP)(m:4e8)(B:0e0)(T:0e1):apy P 60 35 (22 440 [9e0]) ⟨qd m [],T,[396 Dw (52 os l)]⟩= .aS (.v (.X [30e0,30e1])) ⟨qd m g3,T,[]⟩ [P 34 (.gj (.t [42,43]) (.gL (.fA B)) 0 Op) (qd m g3) (sI B) (52 (qd m g3) (sI B))]:=ar
def aoA{m:4e8}(s:∀r∈B,uA r):121 35 (22 440 [9e0]) (qd m []) T (.X [30e0,30e1]) (qd m g3) T:=iY (aoz av m B T) (39 (aoy s B.U 0 H)) 17e5
def u0(sm:K)(B2:0e0)(bN:al):1e0:=[28e0,16 [12 0,12 37,12 74,12 111,12 148,12 185,12 222,12 259,12 296,12 333,12 370,12 407,12 444,12 481,12 518,12 555],16 [3e4,0e6,1e8,1e3],16 [0e6,0 6],16 [0e7,3e4,0e6],.bv [(.ag Z1,10e1),(.ag Z2,8 [13e4,13e5,13e6]),(.ag Z3,.Z 6),(.ag Z4,8 [0 6,10e8,16e9]),(.ag Z5,.Z 7),(.ag Z6,.Z 9),(.ag Z7,.Z 10),(.ag Z8,0e7),(.ag Z9,0e6),(.ag tv,2 (sm.ah 1000))],16 [2 53e6,362 (sm*7),0e6],16 [8 [3e4,0e6,1e8,1e3],8 [0e6,3e8]],16 [12 0,12 1,12 2,12 3,12 4,12 5,12 6,12 7],16 [.cg [13 0,13 1,13 2,13 3,13 4,13 5,13 6,13 7],.cg [120,121]],2e0,2e0]
def u1(sm:K)(B:0e0):1e0:=[.bu 373 [(167,4e0),(168,3e4),(169,16e9),(141,0 200),(170,0e6)],.bu 894 [(112,8 [.Z 24,.Z 33,.Z 26,.Z 34,.Z 28,.Z 30]),(113,8 [.Z 35,.Z 36,.Z 37]),(114,8 [.Z 41,.Z 43]),(115,8 [.Z 45,.Z 46,.Z 47,.Z 48])],.bu 873 [(66,38e4),(112,11e0)],.bu 852 [(186,.Z 14),(66,38e4),(112,8 [1e3,1e8,0e7,10e8,3e8,3e4]),(113,8 [1e3,0e7,1e8]),(114,8 [1e3]),(115,8 [1e8,0e7,3e4]),(116,.Z 20),(117,.Z 21),(187,.Z 16)],6e4,.bu 873 [(66,38e4),(112,11e0)],.bu 852 [(186,.Z 17),(66,38e4),(112,11e0),(113,11e0),(114,11e0),(115,8 [1e3]),(116,11e0),(117,11e0),(187,.Z 19)],6e4,16 [8 [3e4,0e6,1e8,1e3],8 [0e6,3e8]],16 [.cg [13 0,13 1,13 2,13 3,13 4,13 5,13 6,13 7],.cg [120,121]],.bu 1319 [(31,3e8),(196,5e7),(38,8 A6)],16 [.Z 24,.Z 26,.Z 28,.Z 30],175 (31,.X [.X [10e9],5e7]) (184,.Z 25),244 1e8,175 (31,.X [.X [12e9],5e7]) (184,.Z 27),244 1e3,175 (31,.X [.X [27e3],5e7]) (184,.Z 29),244 3e4,175 (31,.X [.X [35e0],5e7]) (184,.Z 31),244 10e8,.bu 1319 [(31,10e8),(196,5e7),(38,9e0)],.bu 754 [(31,.X [.X [35e0],5e7]),(182,27e6),(183,.Z 32)],.bu 754 [(31,.X [.X [12e9,10e9],.X [10e9]]),(182,.Z 18),(183,.Z 22)],.bu 677 [(31,35e0),(72,10e8),(169,16e9),(119,.Z 39)],.bu 677 [(31,27e3),(72,0 6),(169,16e9),(119,.Z 38)],.bu 677 [(31,27e3),(72,0e6),(169,16e9),(119,.Z 40)],16 [3e4,0e6,1e8,1e3],16 [0e6,0 6],16 [0e7,3e4,0e6],.bu 586 [(72,1e3),(167,4e0),(168,3e4),(162,.Z 42)],.eF [0,0,0,0,0,0,0,0,0,0,0,0,0,0,0,0],.bu 586 [(72,1e8),(167,4e0),(168,3e4),(162,.Z 44)],.eF (bV [0,0,0,0,0,0,0,0,0,0,0,0,0,0,0,0] (G 0) (G 16) [13 0,13 37,13 74,13 111,13 148,13 185,13 222,13 259,13 296,13 333,13 370,13 407,13 444,13 481,13 518,13 555]),254 [(31,10e9),(181,1e3),(60,362 (sm*7))],254 [(31,10e9),(181,0e7),(60,2 (sm.ah 1000))],254 [(31,12e9),(181,1e3),(60,2 53e6)],254 [(31,27e3),(181,1e3),(60,0e6)]]
def u2(apr:K):1e0:=[.bu 1188 [(105,21e8),(170,0e6),(141,23e1),(161,0e7),(229,0e7),(199,0e7),(231,10e6)],6e4]
def lS:I->Internal.S:=λi=>(qx.cW[i]?).ge .AQ
def XE(x:K)(h:(l.dI (291 (i<256)))=true):((x.ah 256::l).dI (291 (i<256)))=true:=by
 rw[D.tc,h,eE (show 0<=x.ah 256 from wl x 256 ap),eE (show x.ah 256<256 from Ol x 256 ap)];rfl
def uS1(P:PP)(S B B2:0e0)(bN:al)(sm apr:K):115 P 60 40 (185 0) [] [(93,4e5)] [299 (bS 1384) (36 9e0 [28e0] l),396 Oo (36 (2 sm) os l)]= 57 ⟨u0 sm B2 bN,[(93,4e5),(38,9e0),(98,6e3),(100,21e1)],[]⟩ [P 40 (22 1384 [4e5]) [] [(93,4e5)] (36 9e0 [28e0] [(93,4e5)]),P 39 (.x (168 97 [35e6])) [28e0] [(93,4e5)] (36 (2 sm) [28e0] [(93,4e5)]),90 0=true,90 37=true,90 74=true,90 111=true,90 148=true,90 185=true,90 222=true,90 259=true,90 296=true,90 333=true,90 370=true,90 407=true,90 444=true,90 481=true,90 518=true,90 555=true,9 sm 4294967296=true,a8 .f4 sm 7=true,361 (sm*7)=true,90 0=true,90 1=true,90 2=true,90 3=true,90 4=true,90 5=true,90 6=true,90 7=true,([((sm+0).ah 256),((sm+1).ah 256),((sm+2).ah 256),((sm+3).ah 256),((sm+4).ah 256),((sm+5).ah 256),((sm+6).ah 256),((sm+7).ah 256)].dI (291 (i<256)))=true,9 sm 1000=true]:=ar
def bS1{S B B2:0e0}{bN:al}{sm apr:K}{b:15e5}(x:121 40 (22 1384 [4e5]) [] [(93,4e5)] 9e0 [28e0] [(93,4e5)])(h2:121 39 (.x (168 97 [35e6])) [28e0] [(93,4e5)] (2 sm) [28e0] [(93,4e5)])(h:ig 40 b 0 ⟨u0 sm B2 bN,[(93,4e5),(38,9e0),(98,6e3),(100,21e1)],[]⟩ bH):ig 40 (lS 0::b) 0 ⟨[],[(93,4e5)],[299 (bS 1384) (36 9e0 [28e0] l),396 Oo (36 (2 sm) os l)]⟩ bH:=mM (by have St:=202 0 ⟨[],[(93,4e5)],[299 (bS 1384) (36 9e0 [28e0] l),396 Oo (36 (2 sm) os l)]⟩;rw[uS1 av S B B2 bN sm apr]at St;exact St) (ac x (84 h2 H (69 H H H H H H H H (69 H H H H H H H H (136 (al.tQ.bl 21e6) H H H (69 H H H H H H (by repeat (first|rfl|show XE _ ?_)) H a4)))))) h
def uS2(P:PP)(S B B2:0e0)(bN:al)(sm apr:K):115 P 60 40 (185 1) (u0 sm B2 bN) [(93,4e5),(38,9e0),(98,6e3),(100,21e1)] []= 57 ⟨u0 sm B2 bN++u1 sm B,[(93,4e5),(38,9e0),(98,6e3),(100,21e1),(105,21e8),(108,27e6)],[]⟩ [bJ (0<=(16:K)/\16<=16777216)=true,bJ (0<=(16:K)/\16<=16777216)=true,([((sm+0).ah 256),((sm+37).ah 256),((sm+74).ah 256),((sm+111).ah 256),((sm+148).ah 256),((sm+185).ah 256),((sm+222).ah 256),((sm+259).ah 256),((sm+296).ah 256),((sm+333).ah 256),((sm+370).ah 256),((sm+407).ah 256),((sm+444).ah 256),((sm+481).ah 256),((sm+518).ah 256),((sm+555).ah 256)].dI (291 (i<256)))=true,32<=16777216]:=ar
def bS2{S B B2:0e0}{bN:al}{sm apr:K}{b:15e5}(h:ig 40 b 0 ⟨u0 sm B2 bN++u1 sm B,[(93,4e5),(38,9e0),(98,6e3),(100,21e1),(105,21e8),(108,27e6)],[]⟩ bH):ig 40 (lS 1::b) 0 ⟨(u0 sm B2 bN),[(93,4e5),(38,9e0),(98,6e3),(100,21e1)],[]⟩ bH:=mM (by have St:=202 1 ⟨(u0 sm B2 bN),[(93,4e5),(38,9e0),(98,6e3),(100,21e1)],[]⟩;rw[uS2 av S B B2 bN sm apr]at St;exact St) (28 H H (by repeat (first|rfl|show XE _ ?_)) ap) h
def uS4(P:PP)(S B B2:0e0)(bN:al)(sm apr:K):115 P 60 40 (185 3) (u0 sm B2 bN++u1 sm B) [(93,4e5),(38,9e0),(98,6e3),(100,21e1),(105,21e8),(108,27e6),(141,23e1)] []= 57 ⟨u0 sm B2 bN++(u1 sm B++u2 apr),[(93,4e5),(38,9e0),(98,6e3),(100,21e1),(105,21e8),(108,27e6),(141,23e1),(155,.Z 49)],[]⟩ []:=ar
def bS4{S B B2:0e0}{bN:al}{sm apr:K}{b:15e5}(h:ig 40 b 0 ⟨u0 sm B2 bN++(u1 sm B++u2 apr),[(93,4e5),(38,9e0),(98,6e3),(100,21e1),(105,21e8),(108,27e6),(141,23e1),(155,.Z 49)],[]⟩ bH):ig 40 (lS 3::b) 0 ⟨(u0 sm B2 bN++u1 sm B),[(93,4e5),(38,9e0),(98,6e3),(100,21e1),(105,21e8),(108,27e6),(141,23e1)],[]⟩ bH:=mM (by have St:=202 3 ⟨(u0 sm B2 bN++u1 sm B),[(93,4e5),(38,9e0),(98,6e3),(100,21e1),(105,21e8),(108,27e6),(141,23e1)],[]⟩;rw[uS4 av S B B2 bN sm apr]at St;exact St) a4 h
def aoB{n:I}{os:1e0}(t:al)(l:D K):110 (n+1) os (264 (V.y i t))=G (l.aj cj.y):=by
 induction l with
 |aQ=>rfl
 |aP i l ih=>
  refine((110 (n+1) os (264 (V.y i t))).aj (cj.y i:: ·))=_;rw[ih];rfl
def ne_nil{os:1e0}{T:0e1}{bE:2e1}{x:K}{l:D K}:∃t,lQ .gK (6 (6e6::264 37e8)) 11e0 ⟨os,T,bE⟩=G (true,t):=by
 have h:eN 12 os (6 (6e6::264 37e8))=G (.ay (cj.y x::l.aj cj.y)):=by
  refine(110 11 os ((x::l).aj 52e9)).aj cj.ay=_;rw[aoB];rfl
 show⟨true,?_⟩;refine xw (pA os _ _)=_;unfold pA;rw[h];rfl
def aoC(P:PP)(O:1e0)(v1 v2 v3 v4 v5:V):115 P 60 40 (185 2) O [(93,40e8),(38,v1),(98,v2),(100,v3),(105,v4),(108,v5)] [8e9]= 20 24e4 O [(93,40e8),(38,v1),(98,v2),(100,v3),(105,v4),(108,v5),(141,3e4)] [] [∃t,lQ .gK 40e8 11e0 (198 [(93,40e8),(38,v1),(98,v2),(100,v3),(105,v4),(108,v5)] [8e9])=G (false,t)]:=ar
def aoD(P:PP)(O:1e0)(S2:0e0)(x:K)(c:al)(v1 v2 v3 v4 v5:V):115 P 60 40 (185 2) O [(93,6 (6e6::S2)),(38,v1),(98,v2),(100,v3),(105,v4),(108,v5)] [34e2,.b c]= 20 24e4 O [(93,6 (6e6::S2)),(38,v1),(98,v2),(100,v3),(105,v4),(108,v5),(141,0 (if c=true then 1 else 3))] [] [∃t,lQ .gK (6 (6e6::S2)) 11e0 (198 [(93,6 (6e6::S2)),(38,v1),(98,v2),(100,v3),(105,v4),(108,v5)] [34e2,.b c])=G (true,t),9 x 5=true,((x.ah 5)==0)=c]:=by cases c<;>kernel_rfl
def bS3{hD:D K}{O:1e0}{v1 v2 v3 v4 v5:V}{b:15e5}(h:∀apr:K,(apr=1\/apr=3)->ig 40 b 0 (198 [(93,352 52e9),(38,v1),(98,v2),(100,v3),(105,v4),(108,v5),(141,23e1)] []) bH):∃o,ig 40 (lS 2::b) 0 (198 [(93,352 52e9),(38,v1),(98,v2),(100,v3),(105,v4),(108,v5)] o) bH:=by
 cases hD with
 |aQ=>
  have St:=202 2 (198 [(93,40e8),(38,v1),(98,v2),(100,v3),(105,v4),(108,v5)] [8e9]);rw[aoC av O v1 v2 v3 v4 v5]at St;exact⟨[8e9],mM St (39 ⟨true,H⟩) (h 3 21e6)⟩
 |aP x l=>
  have St:=202 2 (198 [(93,6 (6e6::264 37e8)),(38,v1),(98,v2),(100,v3),(105,v4),(108,v5)] [34e2,.b ((x.ah 5)==0)]);rw[aoD av O _ x _ v1 v2 v3 v4 v5]at St;show⟨[34e2,.b ((x.ah 5)==0)],mM St (129 ne_nil H H) (h _ ?_)⟩;by_cases s:((x.ah 5)==0)=true
  ·rw[eX s];exact 2e6
  ·rw[d5 s];exact 21e6
def wn(sm:K):4e9:=[13 0,13 37,13 74,13 111,13 148,13 185,13 222,13 259,13 296,13 333,13 370,13 407,13 444,13 481,13 518,13 555]
def Oq(sm s:K)(oc B B2:0e0)(bN:al):1e0:=[28e0,37 oc,37 [3e4,0e6,1e8,1e3],37 [0e6,0 6],37 [0e7,3e4,0e6],.bv [(.ag Z1,10e1),(.ag Z2,8 [13e4,13e5,13e6]),(.ag Z3,.Z 6),(.ag Z4,8 [0 6,10e8,16e9]),(.ag Z5,.Z 7),(.ag Z6,.Z 9),(.ag Z7,.Z 10),(.ag Z8,12e8),(.ag Z9,0e6),(.ag tv,2 (sm.ah 1000))],16 [2 53e6,362 (sm*7),0e6],16 [6 [3e4,0e6,1e8,1e3],6 [0e6,3e8]],16 [12 0,12 1,12 2,12 3,12 4,12 5,12 6,12 7],16 [.cg [13 0,13 1,13 2,13 3,13 4,13 5,13 6,13 7],.cg [120,121]],20e1,2e0,.bu 373 [(167,4e0),(168,3e4),(169,16e9),(141,0 200),(170,0e6)],2e0,.bu 873 [(66,38e4),(112,11e0)],2e0,6e4,.bu 873 [(66,38e4),(112,11e0)],2e0,6e4,2e0,2e0,2e0,16 [.Z 24,.Z 26,.Z 28,.Z 30],2e0,2e0,2e0,2e0,2e0,2e0,2e0,2e0,.bu 1319 [(31,10e8),(196,5e7),(38,9e0)],2e0,2e0,2e0,2e0,2e0,2e0,2e0,2e0,2e0,.eF [0,0,0,0,0,0,0,0,0,0,0,0,0,0,0,0],2e0,2e0,2e0,2e0,2e0,2e0,2e0,2e0,2e0,16 [0 9],2e0,2e0,2e0,6e4,6e4,2e0,2e0,.bu 922 [(189,0e8),(190,0e7),(191,0e7),(192,31e0)],2e0]
def mL0(sm:K)(B B2:0e0)(bN:al):1e0:=Oq sm B.U ((wn sm).aj bA) B B2 bN
def i0(sm apr:K)(B B2:0e0)(bN:al):MB:={m:=λi=>((mL0 sm B B2 bN)[i]?).ge 2e0,B:=B,e9:=sm.ah 1000,apr:=apr,aN:=wn sm,T0:=[3e4,0e6,1e8,1e3],T1:=[0e6,0 6],T2:=[0e7,3e4,0e6],c0:=53e6,c1:=(sm*7).ah 18446744073709551616,c2:= 0e6,e0:= 6 [3e4,0e6,1e8,1e3],e1:= 6 [0e6,3e8],d0:= .cg [13 0,13 1,13 2,13 3,13 4,13 5,13 6,13 7],d1:= .cg [120,121],no:=[],nl:=[],gv:=0,pk:=1,g:=[]}
def v4(sm apr:K)(B B2:0e0)(bN:al):1e0:=(27 55 [] [] 0 [] [] {i0 sm apr B B2 bN with pk:=0} []).fG 51
abbrev ea(apr:K)(S B:0e0):0e1:=[(93,4e5),(38,9e0),(98,6e3),(100,21e1),(105,21e8),(108,27e6),(141,23e1),(155,.Z 49)]
def aoE(sm:K):eI (16 [12 0,12 37,12 74,12 111,12 148,12 185,12 222,12 259,12 296,12 333,12 370,12 407,12 444,12 481,12 518,12 555])=eI (37 ((wn sm).aj bA)):=by
 have h:∀i:K,bA (279 (i.ah 256))= 2 (i.ah 256):=λi=>N5 _ (by rw[l9 _ ap];exact⟨K.nh _ ap,K.n8 _ ap⟩);have e:(wn sm).aj bA=[12 0,12 37,12 74,12 111,12 148,12 185,12 222,12 259,12 296,12 333,12 370,12 407,12 444,12 481,12 518,12 555]:=by simp only[wn,D.nW,D.map_nil,h]
 rw[e];rfl
def aoF(sm apr:K)(B B2:0e0)(bN:al):(u0 sm B2 bN++(u1 sm B++u2 apr)).aj eI=(v4 sm apr B B2 bN).aj eI:=by
 have h:∀(A s:aps) (l l':1e0) (x:aps),eI A=eI s->l.aj eI=l'.aj eI->(x::A::l).aj eI=(x::s::l').aj eI:=λA s l l' x h1 h2=>by rw[D.nW,D.nW,D.nW,D.nW,h1,h2]
 exact h _ _ ((u0 sm B2 bN++(u1 sm B++u2 apr)).fh 2) ((v4 sm apr B B2 bN).fh 2) 28e0 (aoE sm) H
def aoG:Tk->al:=λtk=>match tk with
 | .s (.lO _ _)=>true
 |_=>false
def o7(apr:K):1e0:=[.bu 1188 [(105,21e8),(170,0e6),(141,23e1),(161,12e8),(229,12e8),(199,0e7),(231,10e6)],6e4,.bu 1293 [(155,.Z 49),(105,21e8),(199,0e7),(132,.Z 55),(200,.Z 53),(201,31e0)],16 [0 9],2e0,2e0,2e0]
def zm(sm apr:K)(B B2:0e0)(bN:al)(t:1e0):1e0:=(27 55 [] [] 0 [] [] 18e2 []).fG 49++(o7 apr++t)
def w13(apr:K)(B:0e0):1e0:=[.bu 1188 [(105,21e8),(170,0e6),(141,23e1),(161,12e8),(229,2 1),(199,0e7),(231,10e6)],.bv [(1e3,.X [30e0,30e1])],.bu 1293 [(155,.Z 49),(105,21e8),(199,0e7),(132,.Z 55),(200,.Z 53),(201,31e0)],16 [0 9],16 [3e7],2e0,2e0,6e4,6e4,2e0,.bu 957 [(126,1e3),(182,27e6),(38,9e0),(190,0e7),(39,30e0),(40,30e1),(196,6 [0 9]),(195,0e7),(42,0e7),(197,.Z 61)],.bu 922 [(189,2 (B.U:K)),(190,0e7),(191,0e7),(192,31e0)],16 [6e0]]
def stW(sm apr:K)(B B2:0e0)(bN:al):1e0:=(27 55 [] [] 0 [] [] 18e2 []).fG 49++w13 apr B
abbrev sJ(bH:fj):2e1:=[396 (bS 440) (36 (.X [30e0,30e1]) (os++g3) l),.ec aoG λs s s=>bH]
abbrev Dx(P:PP)(sm apr:K)(B B2:0e0)(bN:al)(bH:fj):6e1:=[1<=16777216,P 35 (22 440 [9e0]) (zm sm apr B B2 bN []) [(164,.Z 49),(126,1e3)] (36 (.X [30e0,30e1]) (zm sm apr B B2 bN []++g3) [(164,.Z 49),(126,1e3)]),P 38 (.s (.lO rT my)) (stW sm apr B B2 bN) [(164,7e9),(9,0e6),(203,0e7)] bH]
def aoH(P:PP)(S B B2:0e0)(bN:al)(sm apr:K)(x:apr=1\/apr=3)(b:MB)(h:5e6)(k c:K)(s:0e0):apy P 60 40 (185 4) ⟨v4 sm apr B B2 bN,10e5,sJ (52 (27 55 h [] k s [] b []) (dJ c))⟩= 57 (89 (27 55 h [] k s [] b []) (157,.X [28e9,5e7]) []) (Dx P sm apr B B2 bN (52 (27 55 h [] k s [] b []) (dJ c))):=by rcases x with H|rfl<;>kernel_rfl
def aoI(P:PP)(S B B2:0e0)(bN:al)(sm apr:K)(e:apr=1\/apr=3)(b:MB)(h:5e6)(k c:K)(s x:0e0)(apw:aps)(E:1e0)(hX:apw= .au []\/apw= 20e1)(a:E=[]\/E=jq):apy P 60 40 (185 4) ⟨v4 sm apr B B2 bN,10e5,sJ (52 (27 62 h [] k s x b (apw::E)) (dJ c))⟩= 57 (89 (27 62 h [] k s x b (apw::E)) (157,.X [28e9,5e7]) []) (Dx P sm apr B B2 bN (52 (27 62 h [] k s x b (apw::E)) (dJ c))):=by rcases e with H|rfl<;>rcases hX with H|rfl<;>rcases a with H|rfl<;>kernel_rfl
def aoJ(P:PP)(S B B2:0e0)(bN:al)(sm apr:K)(s:apr=1\/apr=3)(sh:Sh)(hs:15e0)(b:MB)(k:K)(au:0e0)(z:am):apy P 60 40 (185 4) ⟨v4 sm apr B B2 bN,10e5,sJ (205 (bZ sh b k []).U b k au 51 [(58,7e8)] [])⟩= 57 (89 (138 b k au 51 [(58,7e8)]) (157,.X [.ag rJ,7e8]) []) (Dx P sm apr B B2 bN (205 (bZ sh b k []).U b k au 51 [(58,7e8)] [])):=by rcases s with H|rfl<;>rcases hs with H|rfl|rfl<;>kernel_rfl
def aoK(P:PP)(S B B2:0e0)(bN:al)(sm apr:K)(s:apr=1\/apr=3)(sh:Sh)(hs:15e0)(b:MB)(k:K)(au:0e0):apy P 60 40 (185 4) ⟨v4 sm apr B B2 bN,10e5,sJ (205 (bZ sh b k []).U b k au 63 [(58,14e5)] [])⟩= 57 (89 (138 b k au 63 [(58,14e5)]) (157,.X [25e3,14e5]) []) (Dx P sm apr B B2 bN (205 (bZ sh b k []).U b k au 63 [(58,14e5)] [])):=by rcases s with H|rfl<;>rcases hs with H|rfl|rfl<;>kernel_rfl
def z16:4e9:=[0,0,0,0,0,0,0,0,0,0,0,0,0,0,0,0]
def j3(b:MB)(a:aH):1e0:=[b.m 0,b.m 1,b.m 2,b.m 3,b.m 4,b.m 5,b.m 6,b.m 7,b.m 8,b.m 9,b.m 10,37 b.no,b.m 12,.bu 894 [(112,8 [.Z 24,.Z 33,.Z 26,.Z 34,.Z 28,.Z 30]),(113,8 [.Z 35,.Z 36,.Z 37]),(114,8 [.Z 41,.Z 43]),(115,8 [.Z 45,.Z 46,.Z 47,.Z 48])],b.m 14,.bu 852 [(186,.Z 14),(66,38e4),(112,8 [1e3,1e8,0e7,10e8,3e8,3e4]),(113,8 [1e3,0e7,1e8]),(114,8 [1e3]),(115,8 [1e8,0e7,3e4]),(116,.Z 20),(117,.Z 21),(187,.Z 16)],b.m 16,b.m 17,.bu 852 [(186,.Z 17),(66,38e4),(112,11e0),(113,11e0),(114,11e0),(115,8 [1e3]),(116,11e0),(117,11e0),(187,.Z 19)],b.m 19,16 [b.e0,b.e1],16 [b.d0,b.d1],.bu 1319 [(31,3e8),(196,5e7),(38,8 A6)],b.m 23,175 (31,.X [.X [10e9],5e7]) (184,.Z 25),244 1e8,175 (31,.X [.X [12e9],5e7]) (184,.Z 27),244 1e3,175 (31,.X [.X [27e3],5e7]) (184,.Z 29),244 3e4,175 (31,.X [.X [35e0],5e7]) (184,.Z 31),244 10e8,b.m 32,.bu 754 [(31,.X [.X [35e0],5e7]),(182,27e6),(183,.Z 32)],.bu 754 [(31,.X [.X [12e9,10e9],.X [10e9]]),(182,.Z 18),(183,.Z 22)],.bu 677 [(31,35e0),(72,10e8),(169,16e9),(119,.Z 39)],.bu 677 [(31,27e3),(72,0 6),(169,16e9),(119,.Z 38)],.bu 677 [(31,27e3),(72,0e6),(169,16e9),(119,.Z 40)],37 b.T0,37 b.T1,37 b.T2,.bu 586 [(72,1e3),(167,4e0),(168,3e4),(162,.Z 42)],.eF z16,.bu 586 [(72,1e8),(167,4e0),(168,3e4),(162,.Z 44)],.eF b.aN,254 [(31,10e9),(181,1e3),(60,31e4)],254 [(31,10e9),(181,0e7),(60,34e0)],254 [(31,12e9),(181,1e3),(60,31e5)],254 [(31,27e3),(181,1e3),(60,b.c2)],.bu 1188 [(105,21e8),(170,0e6),(141,49e0),(161,2 b.gv),(229,2 b.pk),(199,0e7),(231,26e0)]]
def fA(n:I)(f:I->I):Prop:=∀j,j<n->f j=j
def aoL(b:MB)(a:aH)(apu f:I->I)(e:(λj=>cB (I.jN j 50) j (apu j))=f):(j3 b a).aj (f9 f)=j3 (b.o6 f) a:=by
 subst e;kernel_rfl
def XF(hm:∀i f,fA 50 f->f9 f 30e2=30e2)(h:l5 b){f:I->I}(s:fA 50 f):(j3 b a).aj (f9 f)=j3 b a:=(aoL b a f f (NN 50 s)).aU (bB (j3 · a) (MB.Wu h λi=>hm i f s))
def aoM(b:MB):MB:={b with m:=λi=>141 i 42 (.eF z16) 30e2}
def aoN(h:b.m 42= .eF z16):aoM b=b:=bB (λm=>{b with m:=m}) (funext λi=>by
 cases e:I.bX i 42 with
 |true=>rw[I.fZ e,h];rfl
 |false=>rfl)
def mc{d apC:I}{b:15e5}{O:1e0}{T:0e1}{o1 o2:2e1}(h:ig d b apC 29e4 bH):ig d b apC (62 o2) bH:=
 λk sc B m x J aB h0 s Q EE Y p hz e a r apv P=>h k sc B m x J aB h0 s Q EE Y p hz e a (gP r) apv P
def setO_tk(O:1e0)(j:I)(x:aps)(h:j<O.U):(mu O j x).fG (j+1)=O.fG j++[x]:=by
 induction O generalizing j with
 |aQ=>exact bL h (I.Lb _)
 |aP o l ih=>
  cases j with
  |i4=>rfl
  |hH j=>exact bB (D.aP o) (ih j (I.RI h))
def Dy(hm:∀i f,fA 50 f->f9 f 30e2=30e2)(u:b.m 42= .eF z16)(m:l5 b){S:I}{r:5e6}{fr x w:0e0}{k:K}{q:al}{aC:1e0}{T:0e1}{bE:2e1}{F:15e5}(p:∀k v,19e1=2e5->∀f,fA 50 f->15e3=v)(h:∀a,ig 40 F 0 ⟨j3 b a,T,[]⟩ bH):ig 40 F 0 ⟨dD S r fr k x w q b aC,T,bE⟩ bH:=by
 show aj8 (i:=50) (j:=49) (n:=231) H H λa=>?_;have s:∀n,fA 50 (gm (D.dR 50) n):=λn j l=>by
  unfold gm;rw[D.uq l];rfl
 show yW (gb.sD (fV:=D.dR 50) (eV:=j3 b a) (hP:=T) ?_ D.WV (λk v e=>⟨v,e,by rw[p k v e _ (s _)]⟩) H) λbE=>mc (h a);generalize D.U _=n;rw[C3,XF hm m (s n),<-aoN u];kernel_rfl
def XG{l:1e0}{f:I->I}(h:l.aj (f9 f)=l)(i:I):f9 f ((l[i]?).ge 2e0)=(l[i]?).ge 2e0:=by
 have e:=bB (·[i]?) h;simp only[D.nX]at e;cases q:l[i]? with
 |L=>rfl
 |G o=>rw[q]at e;exact 11e6
def aoO(sm s:K)(oc B B2:0e0)(bN:al)(apu f:I->I)(e:(λj=>cB (I.jN j 50) j (apu j))=f):(Oq sm s oc B B2 bN).aj (f9 f)=Oq sm s (bP f oc) (bP f B) (bP f B2) bN:=by
 subst e;kernel_rfl
def aoP(s:21 B B)(x:21 B2 B2){f:I->I}(h:fA 50 f):(mL0 sm B B2 bN).aj (f9 f)=mL0 sm B B2 bN:=by
 have e:=aoO sm B.U ((wn sm).aj bA) B B2 bN f f (NN 50 h);rw[s,x,oa]at e;exact e
section
variable{sm apr:K}{B B2:D V}{bN:al}
def aoQ(s:21 B B)(x:21 B2 B2):∀i f,fA 50 f->f9 f ((18e2).m i)=(18e2).m i:=λi f h=>XG (aoP s x h) i
def sK(h:0<=n/\n<6):KV .rf (0 n):= 247 n H h
def aoR(s:apr=1\/apr=3)(x:∀f,bP f B=B)(h:B.U<=1000):c7 (i0 sm apr B B2 bN) 0 []where
 aN:= .a2 H
 T0:=⟨mE (sK ap) (mE (.a2 H) (mE (sK ap) (mE (sK ap) mN))),by refine 4<=6;decide⟩
 T1:=⟨mE (.a2 H) (mE (.aD ⟨_,H⟩) mN),by refine 2<=4;decide⟩
 T2:=⟨mE (sK ap) (mE (sK ap) (mE (.a2 H) mN)),by refine 3<=7;decide⟩
 c0:=by refine 0<=sm.ah 4294967296/\sm.ah 4294967296<4294967296;rw[l9 _ ap];exact⟨K.nh _ ap,K.n8 _ ap⟩
 c1:=by refine 0<=(sm*7).ah 18446744073709551616/\(sm*7).ah 18446744073709551616<18446744073709551616;rw[l9 _ ap];exact⟨K.nh _ ap,K.n8 _ ap⟩
 c2:= .a2 H
 e0:= .aD ⟨_,H,mE (sK ap) (mE (.a2 H) (mE (sK ap) (mE (sK ap) mN))),H⟩
 e1:= .aD ⟨_,H,mE (.a2 H) (mE (.aD ⟨_,H⟩) mN),H⟩
 d0:= .aD ⟨_,H,H⟩
 d1:= .aD ⟨_,H,H⟩
 no:=H
 nl:=H
 ns:=⟨λp e=>(nomatch e),I.eC _⟩
 e9:=by refine 0<=sm.ah 1000/\sm.ah 1000<1000;rw[l9 _ ap];exact⟨K.nh _ ap,K.n8 _ ap⟩
 apr:=s
 g:=λv a=>nomatch a
 B:=⟨x,h⟩
universe e
def zn(s:V):Prop:=(∀f,72 s=s)/\∀os,∃d,eN 12 os s=G d/\d.ju=true
def XH(hs:cj.rL s=true)(hz:cj.rL z=true):zn (.X [.ag s,7e8]):=by
 show⟨λf=>rfl,λos=>⟨.qy [.ag s,7e8],?_,?_⟩⟩
 ·refine(110 11 os [.ag s,7e8]).aj cj.qy=_;have h1:eN 11 os (.ag s)=G (.ag s):=by
   refine(match cj.rL s with|true=>G (cj.ag s)|false=>L)=_;rw[hs]
  have h2:eN 11 os 7e8=G 7e8:=by
   refine(match cj.rL z with|true=>G (cj.ag z)|false=>L)=_;rw[hz]
  refine((eN 11 os (.ag s)).cq λd=>((eN 11 os 7e8).cq λd=>G [d]).aj (d:: ·)).aj cj.qy=_;rw[h1,h2];rfl
 ·simp only[cj.ju,cj.qM,hs,hz,al.td]
def Dz:zn (.X [28e9,5e7]):=⟨λf=>rfl,λos=>⟨.qy [28e9,.qy []],ar,ar⟩⟩
section
variable{S B B2:D V}{bN:al}{sm apr:K}
def aoS:(stW sm apr B B2 bN).aj eI=(i8 .a 18e2 (0:I) []).aj eI:=H
def aoT{apu:K->fj}(h:MC .a 18e2 0 [] apu):av 38 (.s (.lO rT my)) (stW sm apr B B2 bN) [(164,7e9),(9,0e6),(203,0e7)] (apu 0):=by
 show aos (oj:=i8 .a 18e2 (0:I) []) (mH:=dJ 0) aoS (λk v e=>?_) (aj2 λo1 o2=>NO (h 0 o2));have hm:=iW e;simp only[dJ,D.eR,kC.mk.fu,D.mn,mo]at hm;rcases hm with⟨H,H⟩|⟨H,H⟩|⟨H,H⟩
 ·exact(51 H)
 ·exact(51 H)
 ·exact(51 H)
def aoU(s:∀r∈B,uA r):121 35 (22 440 [9e0]) (zm sm apr B B2 bN []) T (.X [30e0,30e1]) (zm sm apr B B2 bN []++g3) T:=aoA (m:=λi=>((zm sm apr B B2 bN [])[i]?).ge 2e0) s
def zo(a:21 S S)(x:21 B B)(h:∀f,72 gn=gn):∀k v,19 (10e5++[(157,gn)])=2e5->∀f,fA 50 f->15e3=v:=by
 intro k v e f s;have hm:=iW e;clear e;simp only[ea,D.NS,D.uP,D.eR,kC.mk.fu,D.mn,mo]at hm;rcases hm with⟨_,H⟩|⟨_,H⟩|⟨_,H⟩|⟨_,H⟩|⟨_,H⟩|⟨_,H⟩|⟨_,H⟩|⟨_,H⟩|⟨_,H⟩
 ·exact bB (V.ad · _) (a _)
 ·exact bB (V.ad · _) (x _)
 ·exact bB V.Z (s 5 ap)
 ·exact bB V.Z (s 11 ap)
 ·exact bB V.Z (s 13 ap)
 ·exact bB V.Z (s 15 ap)
 ·rfl
 ·exact bB V.Z (s 49 ap)
 ·exact h f
def bS5(v:apr=1\/apr=3)(apv:qc B [])(apt:∀r∈B,uA r)(apB:B.U<=1000)(n:21 B B)(apy:21 B2 B2)(P:21 S S){F:15e5}
  (h:∀p en cA x R V a,zn p->l5 x->(∀i f,fA 50 f->f9 f (x.m i)=x.m i)->(∀f,41e1=en)->(∀f,bP f cA=cA)->c7 x R V->x.m=(18e2).m->x.e9=(18e2).e9->x.apr=apr->
   (∀mL,kr 51 mL->LC (182 18e2) 0 [] (.Y (105 p) (c9 (182 x) (x.aN.aj bA) en cA) (b1 18e2)))->
   ig 40 F 0 (89 (j3 x a) (157,p) []) bH):∃o,ig 40 (lS 4::F) 0 ⟨v4 sm apr B B2 bN,10e5,o⟩ bH:=by
 have hm:=aoQ (sm:=sm) (apr:=apr) (bN:=bN) n apy;have apE:kr 62 (18e2).m:=λi f apA=>hm i f λj apF=>apA j (I.yr apF ap);have apx:=aoR (sm:=sm) (B2:=B2) (bN:=bN) v n apB;obtain(⟨apu,p,en,cA,x,R,V,W,C,apz,apD,e1,e2,e3,e4,e5,apH⟩):=apv (mL:=λapq=> 2e0) (sh:= .a) (b:=18e2) (b0:=18e2) (k:=0) (ns:=[]) (au:=[]) apx apE (λapq apq apq=>rfl) 2e6 H ⟨H,H,H,H⟩ dZ;have l:∀i f,fA 50 f->f9 f (x.m i)=x.m i:=λi f apA=>by rw[e1];exact hm i f apA
 have u:l5 x:=apD.wd (by rw[e1];exact apE);have app:x.m 42= .eF z16:=by rw[e1];rfl
 have w:=aoT (bN:=bN) (B2:=B2) (sm:=sm) (apr:=apr) (B:=B) W;clear W;have g:=aoU (sm:=sm) (apr:=apr) (B2:=B2) (bN:=bN) apt (T:=[(164,.Z 49),(126,1e3)]);have cQ:zn p->∀a,ig 40 F 0 (89 (j3 x a) (157,p) []) bH:=λm a=>h p en cA x R V a m u l e5 apH apD e1 e3 (e4.aU H) C;clear C;obtain(⟨e,aps,t,k,d,A,aC,c,H,q⟩|⟨z,e,hz,sh,k,au,h3,H⟩|⟨e,sh,k,au,h3,H⟩):=apz
 ·subst e;rcases q with⟨H,H,H⟩|⟨H,apw,E,hX,apC,H⟩
  ·have St:=202 4 ⟨v4 sm apr B B2 bN,10e5,sJ (52 (27 55 t [] k d [] x []) (dJ (0+c)))⟩;rw[aoH av S B B2 bN sm apr v x t k (0+c) d]at St;exact⟨_,mM St (129 ap g w) (Dy l app u (zo P n Dz.1) (cQ Dz))⟩
  ·have St:=202 4 ⟨v4 sm apr B B2 bN,10e5,sJ (52 (27 62 t [] k d A x (apw::E)) (dJ (0+c)))⟩;rw[aoI av S B B2 bN sm apr v x t k (0+c) d A apw E hX apC]at St;exact⟨_,mM St (129 ap g w) (Dy l app u (zo P n Dz.1) (cQ Dz))⟩
 ·subst e;have m:=XH (s:=rJ) ar hz;have St:=202 4 ⟨v4 sm apr B B2 bN,10e5,sJ (205 (bZ sh x k []).U x k au 51 [(58,7e8)] [])⟩;rw[aoJ av S B B2 bN sm apr v sh h3 x k au z]at St;show⟨_,mM St (129 ap g w) ?_⟩;rcases h3 with H|rfl|rfl<;>exact Dy l app u (zo P n m.1) (cQ m)
 ·subst e;have m:=XH (s:=j9) (z:=h7) ar ar;have St:=202 4 ⟨v4 sm apr B B2 bN,10e5,sJ (205 (bZ sh x k []).U x k au 63 [(58,14e5)] [])⟩;rw[aoK av S B B2 bN sm apr v sh h3 x k au]at St;show⟨_,mM St (129 ap g w) ?_⟩;clear w St;rcases h3 with H|rfl|rfl<;>exact Dy l app u (zo P n m.1) (cQ m)
universe e
def wo(b:MB)(a:aH):4e8:=λi=>((j3 b a)[i]?).ge 2e0
def c8(b:MB)(a:aH)(en:V)(s:0e0):1e0:=c9 (lw (wo b a) b) 4e2 en s
abbrev qq(op:jl)(x app:V)(O:1e0)(T:0e1)(o:2e1)(c:al):Prop:=∃t,lQ op x app (62 o)=G (c,t)
def uS6(P:PP)(b:MB)(a:aH)(S B:0e0)(apr:K)(s en:V)(h:0e0):apy P 60 40 (185 5) (89 (j3 b a) (157,s) [261 1455 s 22e0,8e9,8e9,8e9])= 57 (89 22e0 (157,s) []) [P 40 (22 1455 [6e3,9e0,23e1]) (j3 b a) (10e5++[(157,s)]) (36 s 22e0 (10e5++[(157,s)])),qq .gK (s) (s) 22e0 (10e5++[(157,s)]) [8e9,8e9,8e9] false,qq .gK (2 b.gv) (2 b.gv) 22e0 (10e5++[(157,s)]) [8e9,8e9] false,qq .gK 21e1 (.Z 10) 22e0 (10e5++[(157,s)]) [8e9] false]:=ar
def uS7(P:PP)(b:MB)(a:aH)(S B:0e0)(apr:K)(s en:V)(h:0e0):apy P 60 40 (185 6) (89 22e0 (157,s) [8e9])= 57 ⟨22e0++[16 [6 b.T0,6 b.T1,6 b.T2]],10e5++[(157,s)],[]⟩ [b.T0.U<=16777216,b.T1.U<=16777216,b.T2.U<=16777216,qq .gK 7e9 (8 [13e4,13e5,13e6]) (22e0++[16 [6 b.T0,6 b.T1,6 b.T2]]) (10e5++[(157,s)]) [8e9] false]:=ar
def uS8(P:PP)(b:MB)(a:aH)(S B:0e0)(apr:K)(s en:V)(h:0e0):apy P 60 40 (185 7) (89 22e0 (157,s) [8e9,8e9])= 57 (89 22e0 (157,s) []) [qq .gK (6 4e2) 10e1 22e0 (10e5++[(157,s)]) [8e9,8e9] false,qq .gK (6 [12e8,12e8,12e8,12e8,12e8,12e8,12e8,12e8,12e8,12e8,12e8,12e8,12e8,12e8,12e8,12e8]) (8 [0e7,0e7,0e7,0e7,0e7,0e7,0e7,0e7,0e7,0e7,0e7,0e7,0e7,0e7,0e7,0e7]) 22e0 (10e5++[(157,s)]) [8e9] false]:=ar
def aoV(P:PP)(b:MB)(a:aH)(S B:0e0)(apr:K)(s en:V)(h:0e0):apy P 60 40 (185 8) (89 (230 44e7 h) (157,s) [8e9])= 57 ⟨230 44e7 h++[16 [31e4,34e0,31e5,0e6]],10e5++[(157,s)],[]⟩ [qq .gK 7e9 (8 [31e4,34e0,31e5,0e6]) (230 44e7 h++[16 [31e4,34e0,31e5,0e6]]) (10e5++[(157,s)]) [8e9] false]:=ar
def aoW(P:PP)(b:MB)(a:aH)(S B:0e0)(apr:K)(s en:V)(h:0e0)(n:K):apy P 60 40 (185 8) (89 (230 (337 n) h) (157,s) [8e9])= 57 ⟨230 (337 n) h++[16 [31e4,34e0,31e5,0 n]],10e5++[(157,s)],[]⟩ [qq .gK 7e9 (8 [31e4,34e0,31e5,0 n]) (230 (337 n) h++[16 [31e4,34e0,31e5,0 n]]) (10e5++[(157,s)]) [8e9] false]:=ar
def aoX(P:PP)(b:MB)(a:aH)(S B:0e0)(apr:K)(s en:V)(h:0e0):124 P 40 [lS 9] (89 22e0 (157,s) [34e2,34e2])= .aS 45e6 (89 22e0 (157,s) []) [qq .Eq (.Z 20) (.Z 7) 22e0 (10e5++[(157,s)]) [34e2,34e2] true,qq .Eq (.Z 21) (.Z 9) 22e0 (10e5++[(157,s)]) [34e2] true]:=ar
def aoY(P:PP)(b:MB)(a:aH)(B:0e0)(apr:K)(s:V)(T h:0e1)(mm:1e0):apy P 60 40 (22 1455 [6e3,9e0,23e1]) ⟨j3 b a,T,[.ec Dw λx x x=> .Y (105 s) mm h]⟩= 93 s mm [P 39 (.gj (.n 131) (357 B) 0 qF) (j3 b a++[2e0]) [(98,6e3),(38,9e0),(141,23e1),(132,10e6)] (.Y (105 s) mm h)]:=ar
def aoZ:qx.cW=[lS 0,lS 1,lS 2,lS 3,lS 4,lS 5,lS 6,lS 7,lS 8,lS 9]:=ar
set_option backward.match.sparseCases true
def XI:Prop:=∀hD:D K,hD.U<=63->∃t,ig 40 qx.cW 0 ⟨[],[(93,352 48e0)],[]⟩ (20 (105 (.bo true t)) [] [] [] [])
inductive ao0 (bb:gR) (w:eA) (t:b4 ky) (s:ae) (R:md->ae->Prop):Prop
 |mk (n:I) (r:md) (s' XJ:ae) (a:schedN (rr lJ) bb w n (.Uh s ⟨t,.bI "claim.caller" {},nt,[]⟩)= .halted (Os r) s') (b:runN (rr lJ) bb w n s ⟨t,.bI "claim.caller" {},nt,[]⟩= .halted (Os r) s') (c:s'.forget=XJ.forget) (d:R r XJ)
def ao1{R:43e9}(b:s.Jz)
  (h:133 mP t (λef s'=>∃f,ef= .kx f/\(218 f s'/\Ot s'.dC=false)) (λe s'=>R (.dH e) s'/\Ot s'.dC=false) s):
  ao0 bb w t s R:=by
 have q:b4.wp 6e2 ⟨.bI "claim.caller" {},L,L,[],L⟩ t (b4.finPost 6e2 ⟨.bI "claim.caller" {},L,L,[],L⟩ λr s'=>R r s'/\Ot s'.dC=false) (λe x s'=>R (.dH e) s'/\Ot s'.dC=false) nt s:=by
  show b4.zu _ _ t (λef l s' h'=>?_) (λx x x h'=>h') nt s (h _ nt caller_in H λc i=>nomatch i);(show aM h' λf u m=>?_;try clear h';subst u);exact m
 show qf (wp_halts_full (apB:=6e2) (R:=R) b q) λn r v j hs a p k=>?_;exact⟨n,r,j,v,hs,a,p,k⟩
def iCF{α β γ δ ε:Type}{P:17e7}{Q R:α->β->γ->δ->ε->Prop}(a:α)(b:β)(c:γ)(d:δ)(e:ε)(p:P a b)(q:Q a b c d e)(r:R a b c d e):∃a b,P a b/\∃c d e,Q a b c d e/\R a b c d e:=⟨a,b,p,c,d,e,q,r⟩
def ao2{c:ClaimW}{tree:2e4->b4 ky}{w:eA}{s:ae}{eG:153 aH}{dC:Prop}{il:153 ai}(hz:s.Jz)(B:s.dC= #[])
  (ao3:∀a,c.pre a=true->wq.XK a=true->∀sL:26e2->26e2,(∀l,(sL l).qv l)->
   ∃vs p,layAllW c.XL (zp s.M) w.bU sL a s=G (vs,p)/\
    aL (bg c.bb w) mP (tree vs) (λef s'=>∃f,ef= .kx f/\(c.Ends s a vs p (.Y f) s'/\s'.os=s.os/\AllBare s'.dC/\il s'.M))
     (λe s'=>c.Ends s a vs p (.dH e) s'/\s'.os=s.os/\AllBare s'.dC/\il s'.M) p):
  c.CallFrom (λvs=>⟨tree vs,.bI "claim.caller" {},nt,[]⟩) w eG dC il s:=by
 intro a apu C sL apz;show Internal.XU λapy E=>gd (ao3 a apu C sL apz) λvs p S apD=>?_;have V:=ao4 _ _ _ S;obtain(⟨k,r,s',apF,apq,P,A,n,apE,apw⟩):=ao1 (bb:=c.bb) (w:=w) (t:=tree vs) (s:=p)
  (R:=λr s'=>c.Ends s a vs p r s'/\s'.os=s.os/\il s'.M) (ae.Pn V.2.2.2 hz)
  (eW apD ((by rintro ef s' ⟨f,e,h1,h2,h3,q⟩;exact⟨f,e,⟨h1,h2,q⟩,ao5 h3⟩)) (by rintro e s' ⟨h1,h2,h3,q⟩;exact⟨⟨h1,h2,q⟩,ao5 h3⟩))
 show zq (ae.forget_eq A) λapA m m apx m=>?_;have n:=n.congr apA;have apr:s'.M.sV=s.M.sV:=(runN_life _ _ _ P).aU V.2.2.2;clear P;show E (iCF vs p k _ s' S apq ⟨?_,λm i x W=>by rw[B]at W;simp at W,apA▸apw,by rw[apr],ae.rest_eq (apx▸apE)⟩);clear apq;exact n.ak (λh=>oE h λv h=>zr h λj d1 g d u z=> .a2 ⟨v,bB Os j,d1,g,d,λb o app m=>u b o app,z⟩)
  λh=>sO h λe ob bi j d1 g d u z=> .aD ⟨e,ob,bi,bB Os j,d1,g,d,u,λb o app m=>z b o app⟩
def holds_R(said:rC.zs=true)(aW:∀(w:eA) (s₀ a:ae),g9 a.M 40e1->kB.n1<=a.M.O.an->∀(b:D wq) (vs:2e4) (as:11e9),
   jH.re.pre b=true->wq.XK b=true->Laid [] w s₀ a b vs as->
    aL (bg pw w) mP (PySem.aW (.N 1467) vs) (λv s'=>Ou jH.re (zp s₀.M) 54e5 b a (.Y (.bj v)) s')
     (λe s'=>Ou jH.re (zp s₀.M) 54e5 b a (.dH e) s') a):rC.Holds:=by
 have k1:rC.bw.zs=true:=by
  unfold OD.zs at said;simp only[al.lb]at said;repeat (first|exact said|replace said:=said.1)
 have j:jH.promised:=⟨[.ay []],ar,ar⟩;have apw:jH.bb.kb:=⟨H,H,H,H,H,ar⟩;have Y:(opensWell jH.bb&&(frees jH&&jH.within.jL))=true:=ar;show oA (al.mB.mp Y) λo1 k5=>?_;show oA (al.mB.mp k5) λk5 apz=>?_;show zq (frees_parts k5) λo apD W apB hm=>?_;show⟨said,k1,j,⟨apw,o1,cH⟩,j.witness,λw=>⟨(Pm w).1,λs' apC=>?_⟩⟩;(show gD ((Pm w).2 s' apC) λs₀ B apv s app=>?_;show zq app λapr hz i m XM=>?_;try clear app);have apu:g9 s.M (KL w.bU):=λp r=>m p (As _ p r);have Q:=pf apu;show⟨s₀,B,apv,s,apr,λn V=>?_,λx u=>(nomatch u),λx u=>(nomatch u),?_⟩
 ·have:n=51e7 :=by
   have h1:n∈ [51e7]:=V;simpa using h1
  subst a9;exact abx apu
 ·show ao2 (c:=jH.re) hz i λb f l sL S=>?_;(show oE (aq.mT.mp (layAllW_isSome (R:=[]) (cl:=zp s.M) (gJ:=λc apy=>nomatch apy) (P:=w.bU) (sL:=sL) b jH.pj s (pre_splitW f).1)) λapA k=>?_;obtain⟨vs,a⟩:=apA);have eH:=layAllW_keeps _ _ _ k;have apq:=ao4 _ _ _ k;show dU (reads_layAllW S _ _ _ k l a.M (λA A e=>e)) λas E apE apx=>?_;have apt:Laid [] w s a b vs as:=⟨⟨sL,S,k⟩,E,apE,apx,eH,apq.1.aU i,apq.2.2.1⟩;have aps:kB.n1<=a.M.O.an:=by
   have h1:=m (1467,uL w.bU) (by
    have:((40e1).nv (353 1467))=G (1467,uL w.bU):=ar
    exact D.uN a9)
   have:=ai.cP (eH _ _ h1);have e:kB.n1=1468:=ar;rw[e];exact a9
  have h:=aW w s a (λp r=>eH _ _ (m p r)) aps b vs as f l apt;have t:=ident_freeW apD W apB;have d:jH.re.within=[]:=D.isEmpty_iff.mp apz;have apF:a.M.jG iB 51e7=47 1467:=by
   unfold ai.jG;rw[k3 (P:=w.bU) λp r=>eH _ _ (apu p r)];kernel_rfl
  have C:a.M.Ns iB (a.M.jG iB):= .vz (pf (P:=w.bU) λp r=>eH _ _ (apu p r));show⟨vs,a,k,?_⟩;show 164 (yd (gf:=51e7) C ?_);rw[apF];show aY (eW h (λv s' g=>bG ⟨_,H,?_⟩) λe s' g=>?_)
  ·have z:=g.laid (c:=jH.re) o d t apt;exact⟨z.1,z.2.1,z.2.2,λq=>by cases q⟩
  ·have z:=g.laid (c:=jH.re) o d t apt;exact⟨z.1,z.2.1,z.2.2,λq=>by cases q⟩
set_option backward.match.sparseCases false
def wt{a b:V}{os:1e0}{T:0e1}{o:2e1}(x:eN 12 os a=G d)(s:eN 12 os b=G d)(h:d.ju=true):qq .gK a b os T o false:=by
 show⟨qz 12 os a||qz 12 os b,?_⟩
 ·refine xw (pA os a b)=_;unfold pA;rw[x,s];refine G (!(cj.eqv d d),_)=_;rw[eqv_refl d h];rfl
def ao6{a b:V}{os:1e0}{T:0e1}{o:2e1}(x:eN 12 os a=G d)(s:eN 12 os b=G d)(h:d.ju=true):qq .Eq a b os T o true:=by
 show⟨qz 12 os a||qz 12 os b,?_⟩
 ·refine vEq os a b=_;unfold vEq pA;rw[x,s];refine G (cj.eqv d d,_)=_;rw[eqv_refl d h]
def XN{n:I}{os:1e0}{v:V}(h:KV .x v):∃d,eN (n+1) os v=G d/\d.ju=true:=by
 rcases h with H|⟨i,t,H⟩
 ·exact⟨.L,H,H⟩
 ·exact⟨.y i,H,H⟩
def mQ{f:V->aq cj}(h:f v=G d)(g:h8 f l=G ds):h8 f (v::l)=G (d::ds):=by
 refine((f v).cq λd=>(h8 f l).aj (d:: ·))=_;rw[h,g];rfl
def ok{f:D cj->cj}(h:o=G ds):o.aj f=G (f ds):=by rw[h];rfl
def Ox{n i:I}{os:1e0}{l:0e0}{ds:D cj}(h:os[i]? =0e4)(hs:o.sq=G l)(g:110 n os l=G ds):eN (n+1) os 15e9=G (.ay ds):=by
 refine((os[i]?.cq aps.sq).cq λl=>(110 n os l).aj cj.ay)=G (cj.ay ds);rw[h];refine((aps.sq o).cq _)=_;rw[hs];exact ok g
def wu{n:I}{os:1e0}{l:0e0}:eJ q l->∃ds,110 (n+1) os l=G ds/\cj.qM ds=true:=by
 induction l with
 |aQ=>exact λx=>⟨[],H,H⟩
 |aP v l ih=>
  intro h;show aM (XN (n:=n) (os:=os) (h v (D.dP ..)).x) λd e1 e2=>?_;show aM (ih λw s=>h w (54 s)) λds g1 g2=>?_;exact⟨d::ds,mQ e1 g1,by rw[cj.qM,e2,g2];rfl⟩
def ao7{n:I}{os:1e0}{ns:33e4}:(∀p∈ns,KV .x p.2)->∃ds,110 (n+3) os (ns.aj uv)=G ds/\110 (n+3) os (ns.aj uw)=G ds/\cj.qM ds=true:=by
 induction ns with
 |aQ=>exact λx=>⟨[],H,H,H⟩
 |aP p ns ih=>
  intro h;show aM (XN (n:=n) (os:=os) (h p (D.dP ..))) λd e1 e2=>?_;show dU (ih λw s=>h w (54 s)) λds g1 g2 g3=>?_;have f1:∀t,eN (n+3) os (.X [0 p.1,.ad [p.2] t])=G (.qy [.y p.1,.ay [d]]):=λt=>ok (f:=cj.qy) (mQ (f:=eN (n+2) os) (d:= .y p.1) H (mQ (ok (f:=cj.ay) (mQ e1 H)) H));exact⟨.qy [.y p.1,.ay [d]]::ds,mQ (f1 _) g1,mQ (f1 _) g2,by simp only[cj.qM,cj.ju,e2,g3,al.td]⟩
section
variable{b:MB}{a:aH}{en:V}{cA:D V}{k:I}{ns:D (K×V)}
def ao8(apx:20e8){T:0e1}{o:2e1}:qq .gK 21e1 (.Z 10) 6e8 T o false:=by
 show dU (ao7 (n:=8) (os:=6e8) apx.ns.1) λds g1 g2 g3=>?_;rw[<-apx.no]at g1;rw[<-apx.nl]at g2;exact wt (d:= .ay ds) (show(110 11 6e8 b.no).aj cj.ay=_ from ok g1) (show(110 11 6e8 b.nl).aj cj.ay=_ from ok g2) (by rw[cj.ju];exact g3)
def c_T(apx:20e8){T:0e1}{o:2e1}:qq .gK 7e9 (8 [13e4,13e5,13e6]) (6e8++[16 [6 b.T0,6 b.T1,6 b.T2]]) T o false:=by
 generalize s:c8 b a en cA++[aps.ay [V.ad b.T0 true,.ad b.T1 true,.ad b.T2 true] false]=os;show aM (392 9 apx.T0.1) λd0 e0 c0=>?_;show aM (392 9 apx.T1.1) λd1 e1 c1=>?_;show aM (392 9 apx.T2.1) λp e2 c2=>?_;have f:∀{l:0e0} {d:D cj} {t:al},110 10 os l=G d->eN 11 os (.ad l t)=G (.ay d):=λh=>ok h;have g:∀{i:I} {l:0e0} {d:D cj} {t:al},os[i]? =G (.ay l t)->110 10 os l=G d->eN 11 os 15e9=G (.ay d):=λr h=>Ox r H h;have h2:os[2]? =G (37 b.T0):=by rw[<-s];rfl
 have h3:os[3]? =G (37 b.T1):=by rw[<-s];rfl
 have e:os[4]? =G (37 b.T2):=by rw[<-s];rfl
 have x:os[51]? =G (16 [6 b.T0,6 b.T1,6 b.T2]):=by rw[<-s];rfl
 show wt (d:= .ay [.ay d0,.ay d1,.ay p]) ?_ ?_ ?_
 ·exact Ox x H (mQ (f (t:=true) e0) (mQ (f (t:=true) e1) (mQ (f (t:=true) e2) H)))
 ·exact ok (f:=cj.ay) (mQ (g h2 e0) (mQ (g h3 e1) (mQ (g e e2) H)))
 ·simp only[cj.ju,cj.qM,c0,c1,c2,al.td]
def c_m{T:0e1}{o:2e1}:qq .gK (6 4e2) 10e1 6e8 T o false:=by
 have r:eJ .x 4e2:=λv s=>by
  (show aM (D.sp.mp s) λx p h=>?_;subst h);clear s;exact 19e7
 show aM (wu (n:=10) (os:=6e8) r) λds e c=>?_;exact wt (d:= .ay ds) (show(110 11 6e8 4e2).aj cj.ay=_ from ok e) (show(110 11 6e8 4e2).aj cj.ay=_ from ok e) (by rw[cj.ju];exact c)
def XO{v:V}(a:KV .x v){x app z:K}{T:0e1}{o:2e1}{l:1e0}(s:l.U=51):qq .gK 7e9 (8 [6e6,2 app,2 z,v]) (l++[16 [6e6,2 app,2 z,v]]) T o false:=by
 generalize h:l++[aps.ay [V.y x true,.y app true,.y z true,v] false]=os;have s:os[51]? =G (16 [V.y x true,2 app,2 z,v]):=by
  rw[<-h,D.lA (by exact I.hZ s),s];rfl
 clear h;have b:eJ .x [V.y x true,2 app,2 z,v]:=237 19e7 19e7 (237 19e7 a mN);show aM (392 10 b) λds e c=>?_;show wt (d:= .ay ds) ?_ (ok e) (by rw[cj.ju];exact c);exact Ox s H e
def XP{n m:I}{os:1e0}{v:V}(h:v= 0e6\/∃l,v= 6 l/\eJ q l/\l.U=m):∃d,eN (n+2) os v=G d/\d.ju=true:=by
 rcases h with H|⟨l,H,s,_⟩
 ·exact⟨.L,H,H⟩
 ·show aM (392 n s) λds e c=>?_;exact⟨.ay ds,ok e,by rw[cj.ju];exact c⟩
def c_e(apx:20e8){T:0e1}{o:2e1}:qq .Eq (.Z 20) (.Z 7) 6e8 T o true:=by
 show aM (XP (n:=9) (os:=6e8) apx.e0) λd0 e0 c0=>?_;show aM (XP (n:=9) (os:=6e8) apx.e1) λd1 e1 c1=>?_;have h:(110 11 6e8 [b.e0,b.e1]).aj cj.ay=G (.ay [d0,d1]):=ok (mQ e0 (mQ e1 H));exact ao6 (d:= .ay [d0,d1]) h h (by simp only[cj.ju,cj.qM,c0,c1,al.td])
def c_d(apx:20e8):qq .Eq (.Z 21) (.Z 9) 6e8 T o true:=by
 have h1:∀x l t,6e8[x]? =G (.ay l t)->eN 12 6e8 (.Z x)=(110 11 6e8 l).aj cj.ay:=λx l t h=>by
  refine((6e8[x]?.cq aps.sq).cq _)=_;rw[h];rfl
 have r:6e8[21]? =G (16 [b.d0,b.d1]):=H;have p:6e8[9]? =G (16 [b.d0,b.d1]):=H;have apt:Qp 6e8 (.Z 21) (.Z 9)=(eqB [b.d0,b.d1] [b.d0,b.d1]).aj λb=>(b,true):=H;refine∃t,vEq 6e8 (.Z 21) (.Z 9)=G (true,t);unfold vEq pA;rw[h1 _ _ _ r,h1 _ _ _ p,apt];rcases apx.d0 with e0|⟨e,e0,_⟩<;>rcases apx.d1 with e1|⟨s,e1,_⟩<;>rw[e0,e1]
 ·exact 25e1
 ·exact⟨true,bB (λq=>G (true&&(q&&true),true)) (eE (rfl:s=s))⟩
 ·exact⟨true,bB (λq=>G (q&&(true&&true),true)) (eE (rfl:e=e))⟩
 ·exact⟨true,(bB (λq=>G (q&&(274 s s&&true),true)) (eE (rfl:e=e))).aU (bB (λq=>G (true&&(q&&true),true)) (eE (rfl:s=s)))⟩
universe e
def XQ(hm:∀i f,fA 50 f->f9 f 30e2=30e2)(s:l5 b):kr 51 (wo b a):=λi f h=>XG (XF hm s λj x=>h j (I.yr x ap)) i
section
variable{S B B2:D V}{bN:al}{sm apr:K}
def ao9(h:b.m=(18e2).m):((j3 b a)++[aps.ay [] false]).aj eI=(117 (lw (wo b a) 18e2)).aj eI:=by
 obtain(⟨m,s,e9,x,aN,T0,T1,T2,c0,c1,c2,e0,e1,d0,d1,no,nl,gv,pk,g⟩):=b;have h:m=(18e2).m:=h;subst h;rfl
def apa(h:b.m=(18e2).m)(hL:LC (lw (wo b a) 18e2) 0 [] (.Y (105 gn) 6e8 (b1 18e2))):121 40 (22 1455 [6e3,9e0,23e1]) (j3 b a) T gn 6e8 T:=
 iY (aoY av b a B apr gn T _ _) (39 (aot (ao9 h) (λk v e=>⟨v,e,H⟩) hL)) 17e5
def apb(h:O.aj eI=oj.aj eI):gb 0 O oj T T 39e7:=by
 have a:O.U=oj.U:=by have:=bB D.U h;simpa using a9
 show⟨⟨λi o e=>?_,λi x=>by exact yp a x,λi j s s h=>h,λk v e=>⟨v,e,by rw[n5]⟩⟩,λs s=>rfl,32e0⟩;have e2:=bB (·[i]?) h;simp only[D.nX,e,aq.ta]at e2;show aM (aq.ha.mp e2) λo2 g1 g2=>?_;exact⟨o2,g1,by rw[ur];exact g2⟩
def Oy(hL:n9 (lw (wo b a) b))(p:∀f,41e1=en)(hs:21 cA cA)(m:∀k v,19e1=2e5->∀f,fA 50 f->15e3=v):gb 0 (6e8++[x]) 6e8 T T (gm 42e9 (6e8++[x]).U):=by
 have n:(6e8).U=51:=uu ..;have r:∀j,j<51->gm 42e9 (6e8++[x]).U j=j:=λj h=>by
  unfold gm;rw[D.uq h];rfl
 show gb.sD (fV:=42e9) ?_ D.WV (λk v e=>⟨v,e,by rw[m k v e _ λj h=>r j (I.yr h ap)]⟩) H;have hr:(6e8).aj (f9 (gm 42e9 (6e8++[x]).U))=6e8:=WU hL _ r (oa _ _) (p _) (hs _);rw[C3,hr];show D.V8 λi=>?_;rw[D.nX,D.nX];by_cases s:i<51
 ·rw[D.uq s];refine G (((6e8++[x])[i]?).aj eI)=(6e8[i]?).aj (λo=>G (eI o));rw[D.kO (by exact I.LT s),D.ic (by exact I.LT s)];rfl
 ·rw[D.q4 (by simp;exact I.C9 s),D.q4 (by exact I.C9 s)];rfl
def apc(apx:20e8)(u:zn gn)(apA:l5 b)(hm:∀i f,fA 50 f->f9 f 30e2=30e2)(h:∀f,41e1=en)(hs:21 cA cA)(P:21 S S)(g:21 B B)
  (apd:121 40 (22 1455 [6e3,9e0,23e1]) (j3 b a) (10e5++[(157,gn)]) gn 6e8 (10e5++[(157,gn)])):ig 40 [lS 5,lS 6,lS 7,lS 8,lS 9] 0 (89 (j3 b a) (157,gn) []) (20 45e6 [] [] [] []):=by
 have V:=apx.T0.2;have W:=apx.T1.2;have apw:=apx.T2.2;have hL:n9 (lw (wo b a) b):=apx.og (XQ hm apA);have p:=zo (apr:=apr) P g u.1;show aM (u.2 6e8) λdt t1 t2=>?_;have j:=hR 40 60 (.ss [lS 9]) (89 6e8 (157,gn) [34e2,34e2]);rw[aoX av b a S B apr gn en cA]at j;have c:ig 40 [lS 9] 0 (89 6e8 (157,gn) []) (20 45e6 [] [] [] []):=
  mc (aj7 (a:= 45e6) (fL:=[]) (gc:=[]) j (24 (c_e apx) (c_d apx)) (gb.sD (fV:=[]) H D.kP (λk v e=>19e2) H))
 have t:ig 40 [lS 8,lS 9] 0 (89 6e8 (157,gn) []) (20 45e6 [] [] [] []):=by
  rcases apx.c2 with e|⟨n,e,_⟩
  ·have s:=202 8 (89 (230 44e7 cA) (157,gn) [8e9]);rw[aoV av b a S B apr gn en cA]at s;have r:({b with c2:= .aa .L}:MB)=b:=by rw[<-e]
   have q:=XO (v:= 0e6) 2e6 (x:=b.c1) (app:=b.e9) (z:=b.c0) (T:=10e5++[(157,gn)]) (o:=[8e9]) (l:=230 44e7 cA) (uu ..);rw[r]at s q;exact mc (mM s (39 q) (yW (Oy hL h hs p) λbE=>mc c))
  ·have s:=202 8 (89 (230 (337 n) cA) (157,gn) [8e9]);rw[aoW av b a S B apr gn en cA n]at s;have r:({b with c2:= .y n false}:MB)=b:=by rw[<-e]
   have q:=XO (v:= 0 n) 19e7 (x:=b.c1) (app:=b.e9) (z:=b.c0) (T:=10e5++[(157,gn)]) (o:=[8e9]) (l:=230 (337 n) cA) (uu ..);rw[r]at s q;exact mc (mM s (39 q) (yW (Oy hL h hs p) λbE=>mc c))
 have s8:=202 7 (89 6e8 (157,gn) [8e9,8e9]);rw[uS8 av b a S B apr gn en cA]at s8;have R:=mc (o2:=[]) (mM s8 (24 c_m ⟨true,ar⟩) t);have w:=202 6 (89 6e8 (157,gn) [8e9]);rw[uS7 av b a S B apr gn en cA]at w;have apq:=mc (o2:=[]) (mM w (28 bM bM bM (c_T apx)) (yW (Oy hL h hs p) λbE=>mc R));have m:=202 5 (89 (j3 b a) (157,gn) [261 1455 gn 6e8,8e9,8e9,8e9]);rw[uS6 av b a S B apr gn en cA]at m;exact mc (mM m (28 apd (wt t1 t1 t2) (wt (d:= .y b.gv) H H H) (ao8 apx)) apq)
universe e
def ape(l:D K)(f:I->I):bP f (264 37e8)=264 37e8:=by
 rw[lE,D.rB];rfl
def law_ok:XI:=by
 intro hD c;have j:∀v∈(hD.aj λi=>V.y i true),∃i,v=37e8:=λv r=>by
  (show aM (D.sp.mp r) λi z q=>?_;subst q);exact⟨i,H⟩
 have s:=ape hD;show sO (aor j (by rw[D.fq];exact c) s) λB B2 bN w l n h m u=>?_;show⟨false,?_⟩;rw[aoZ];show mc (bS1 (apr:=0) (u _) aow (mc (bS2 (apr:=0) ?_)));obtain⟨o,h3⟩:=bS3 (hD:=hD) (O:=u0 hD.lc B2 bN++u1 hD.lc B) (v1:= 9e0) (v2:= 6e3) (v3:= 21e1) (v4:= 21e8) (v5:= 27e6) (b:=[lS 3,lS 4,lS 5,lS 6,lS 7,lS 8,lS 9]) (bH:= 20 45e6 [] [] [] []) λapr p=>by
  show mc (bS4 ?_);show yW (apb (aoF hD.lc apr B B2 bN)) λbE=>?_;obtain⟨app,e⟩:=bS5 (sm:=hD.lc) (F:=[lS 5,lS 6,lS 7,lS 8,lS 9]) (bH:= 20 45e6 [] [] [] []) p w l n h m s λf en cA g t P a d x hm k hs apx e1 e2 e3 hL=>
   apc apx d x hm k hs s h (apa e1 (hL _ (XQ hm x)))
  exact mc e
 exact mc h3
set_option backward.match.sparseCases true
def aJ.start{m R:am->12e4}(apA:g9 s.M 40e1)(app:lr<=s.M.O.an)(W:s.dC= #[]) (hL:ab.cX=s.M.O.an) (xc:InCallC s ab.cX m ab.b2 R s1)
  (hf:ab.eb=31e7) (hk:ab.br.d8= .jJ) (x:(ab.b2.aj (·.1)).dS)
  (jy:∀k v,19e1=2e5->∃u,RV [] s.M v u/\(33e7=12e3->m 5e5=G u)/\(33e7≠12e3->R 5e5=G u))
  (P:∀n,(37e4=18e8\/37e4=23e5)->(378 n)=true):
  aJ ⟨w,mP.hW ab,ab,s.os,false⟩ [] ⟨[],T,[]⟩ s1:=by
 have f:=xc.oX.bR;(show qe xc.oX.fE λh1 tk apD=>?_;subst apD);have S:∀n c,(n,c)∈ab.b2->s.M.O.an<c:=λn c h=>hL▸xc.LJ n c h;have no:∀a,¬68 []:=(by rintro a ⟨p,g,_⟩;exact nomatch g);have gz:∀l',(mP.hW ab).dX=G l'->l'=[ab]:=λl' h=>by
  have:(mP.hW ab).dX=G [ab]:=H;rw[a9]at h;exact(52e5).bh
 show⟨λp g=>f _ _ (apA p (As _ p g)),H,λi o p e d=>19e2,D.kP,λa h=>(no a h).ak,λa h=>(no a h).ak,⟨(313 xc.oX.ns),λk v a b=>?_⟩,λa d=>no a,λa q=>?_,⟨?_,x,λn x=>?_⟩,λd n c P=>?_,λl z e j=>?_,λa q=>⟨?_,no a⟩,W,H,?_⟩
 ·show dU (jy k v b) λu r e d=>?_;exact⟨u,e a,dN (jc f) r⟩
 ·show dU (jy k v b) λu r d e=>?_;show oE (aq.mT.mp (P _ a)) λc apq=>?_;have V:33e7≠12e3:=by
   have t:33e7=18e8\/33e7=23e5:=a;rcases t with t|t<;>rw[t]<;>decide
  exact⟨c,u,apq,(e V)▸xc.dk _ c apq,dN (jc f) r,no c⟩
 ·rcases q with H|⟨_,n,x⟩
  ·exact hL▸app
  ·exact 351 app (S n a x)
 ·have:=xc.apart;rw[D.dS,D.afl];exact a9
 ·have h1:=S n _ x;have h2:ab.cX=s.M.O.an:=hL;rw[h2]at h1;exact 294 h1
 ·exact⟨_,xc.dk n c (SP x P)⟩
 ·rw[gz l z]at j;cases D.cY.mp j;show uB xc.oX.ns λo es ep e1 e2 d=>?_;exact⟨hk,_,o,hf,e1,es,ep,e2⟩
 ·obtain(⟨l,z,e,j,q⟩):=q;have apw:l=[ab]:=gz l z;rw[apw]at j;cases D.cY.mp j;clear j;rw[hf]at q;cases q;exact hL▸app
 ·show⟨#[],f _ _ (apA (1391,qo w.bU) ?_),2e6⟩;have:((40e1).nv (353 1391))=G (1391,qo w.bU):=ar;exact D.uN a9
def XR:lk ft 1467=G qx:=ar
def items_int{R:XS}{xs:D wq}:WShape.hasItems R xs .y=true->∃is:D K,xs=is.aj .y:=by
 induction xs with
 |aQ=>exact λa=>⟨[],H⟩
 |aP x xs e=>
  intro h;unfold WShape.hasItems at h;show oA 48e2 λh1 h2=>?_;(show oE (hasW_int h1) λi s=>?_;subst s);(show oE (e h2) λis s=>?_;subst s);exact⟨i::is,H⟩
def apf{R:XS}{cl:am->aq aH}{h:ai}{is:D K}:∀{vs:2e4} {as:11e9},ReadsAllW R cl h vs (is.aj .y) as->cw [] h (is.aj 48e0) vs:=by
 induction is with
 |aQ=>intro vs as r;rw[(apg r).1];exact .aQ
 |aP i is s=>
  intro vs as r;(show qf (aph r) λv vs k m b x a p=>?_;subst b);clear r;(show aM (readsW_int_inv a) λt e x=>?_;subst e);clear a;exact .aP (.y ..) (s p)
def api{R:XS}{cl:am->aq aH}{h:ai}{is:D K}{vs:2e4}{as:11e9}(e:is.U<=63)(r:ReadsAllW R cl h vs [.ay (is.aj .y)] as):∃u,vs=[u]/\RV [] h (6 (is.aj 48e0)) u:=by
 (show qf (aph r) λu vs q j k b r1 r2=>?_;subst k);clear r;rw[(apg r2).1];(show nn (readsW_list_open r1) λl o v s=>?_;show uC s λn w m e1 e2 e3 x=>?_;try clear s;subst m;show oA x λe4 b=>?_;try clear x);clear r1;exact⟨_,H,.ad _ _ _ _ ⟨_,e1,e2,_,e3⟩ ((by rintro⟨p,a,_⟩;exact nomatch a)) (368 (I.dV e ap)) (apf e4)⟩
def call_law(apj:XI)(w:eA)(s₀ s:ae)(apu:g9 s.M 40e1)(XM:kB.n1<=s.M.O.an)(g:D wq)(vs:2e4)(as:11e9)
  (XT:jH.re.pre g=true) (MR:wq.XK g=true) (apt:Laid [] w s₀ s g vs as):
  aL (bg pw w) mP (PySem.aW (.N 1467) vs) (λv s'=>Ou jH.re (zp s₀.M) 54e5 g s (.Y (.bj v)) s')
     (λe s'=>Ou jH.re (zp s₀.M) 54e5 g s (.dH e) s') s:=by
 clear MR;show oA (pre_splitW XT) λp1 W=>?_;clear XT;(show jz (hasAllW_cons (e:= .ay .y) (es:=[]) p1) λd r yL h1 h2=>?_;subst yL);clear p1;cases hasAllW_nil h2;(show aM (hasW_list h1) λxs z h3=>?_;subst z);(show oE (items_int h3) λhD z=>?_;subst z);have apF:hD.U<=63:=by
  have e:∀l:D wq,jH.pre.holds jH.XL {pj:=[.ay l]}=WTm.holds jH.XL (.and (.oF (.lit (.bo (decide ((63:K)<(l.U:K)))))) (.lit 22e6)) {pj:=[.ay l]}:=λl=>ar;rw[e,D.fq]at W;show I.C9 λq=>?_;rw[eE (show(63:K)<(hD.U:K) by lia)]at W;exact bL (show false=true from W) al.lK
 show oE (apj hD apF) λtt apk=>?_;(show aM (api apF apt.reads) λu z ru=>?_;subst z);show jz (CR w.bU XR) λfd B apl hB apv=>?_;have S:g9 s.M (KL w.bU):=λp f=>apu p (As _ p f);show aM (apv.Z w.bU) λo hm hd=>?_;have rs:cw [] s.M [V.ad (hD.aj 48e0) true] [u]:= 265 ru;show aM (apv.cq s w.bU S [] _ [u] rs H) λB4 r' apm=>?_;have aps:lr<=s.M.O.an:=by
  have e:kB.n1=lr:=ar;rw[<-e];exact XM
 have hps:∀app∈(qx.ps.aj nm).fw B4,app.1∈qx.ps.aj nm:=λapp apE=>(D.of_mem_zip apE).1;show rh (OH (cW:=B) ap (S _ hm) hd apv.co apv.gen apv.cW (apv.dG _ _ S) (apm _ _ _ _ ?_));rw[apv.SM];show afy apv.d8 (λapp apE=>?_) λab m s1 xc=>?_
 ·show aM (D.sp.mp (hps app apE)) λp f e=>?_;rw[<-e];rcases apv.pk p f with h|h
  ·exact 25e7
  ·exact .aD ⟨h,vJ 25e7⟩
 have hL:ab.cX=s.M.O.an:=bB (·.cX) m;have apD:ab.eb=31e7:=(bB (·.eb) m).aU (bB (G ·.cX) m).bh;have apq:ab.br=fd.br:=bB (·.br) m;have A:ab.b2=t5 (179 1) fd.br.bp []:=bB (·.b2) m;have hgl:ab.g8=iB:=(bB (·.g8) m).aU apv.vw;have hbl:ab.jC=mU:=(bB (·.jC) m).aU apv.jN;have gJ:∀n c,(n,c)∈ab.b2->ab.cX<c:=λn c h=>xc.LJ n c h;have R:=xc.oX.bR;have C:∀n,37e4=fd.br.bp.bY n:=λn=>by unfold ez.dA;rw[apq]
 have apy:∀n,37e4≠23e5:=λn h=>by
  rw[C]at h;exact apv.SN _ (nc h) H
 show⟨LI (λp f=>R _ _ (S p f)),OF ?_⟩;have R1:=aJ.start (w:=w) (T:=qx.ps.fw [352 48e0]) apu aps apt.dC hL xc apD (by rw[apq];exact apv.d8) (by rw[A];exact SK apv.bp D.kP λj j h=>nomatch h)
  (λk v e=>SJ _ _ apv.SO r' k v e) (λn h=>by
   rcases h with h|h
   ·rw[A];rw[C]at h;exact vJ 25e7
   ·exact bL h (apy n))
 have yM:(53e2).Ok 40:=by
  show⟨by refine ab.br.d8=_;rw[apq];exact apv.d8,hgl,hbl,λn h=>?_,by refine mP.g7+1+_+_<_;decide,by refine mP.jb+3+_+_<_;decide,H,H,⟨[ab],H,λj=>⟨[],H,apD⟩⟩,λq=>nF q⟩;rcases h with h|h
  ·refine(378 n)=true;have h':37e4=18e8:=h;rw[A];rw[C]at h';exact vJ (.a2 h')
  ·exact bL h (apy n)
 have apC:qE qx.cW=L:=ar;have hch:=VV w.bU XR apC apl hB;have Q:aJ 53e2 ([]++[]) ⟨[],[(93,352 48e0)],[]⟩ s1:=R1;show eW (apk 60 fd.br B hch ⟨w,mP.hW ab,ab,s.os,false⟩ [] [] s1.M s1 (λfl s'=>fl= .bj 22e6/\qJ s'.M/\(∃aB,56 [] ⟨w,mP.hW ab,ab,s.os,false⟩ s1.M s'.M)/\s'.os=s.os/\s'.dC= #[]) (λj j=>fR) yM apq H pT.never H Q (Kp.b7 ..) ?_) ?_ (λj j q=>q.ak)
 ·intro aB s' u apA P r3;cases r3 with
  |bj r3=>
   cases r3;exact⟨H,apA.cV,⟨aB,P⟩,apA.os,apA.dC⟩
 ·rintro fl s' ⟨H,apB,⟨aB,P⟩,Lw,apn⟩;have apo:∀a,a<s.M.O.an->¬fr 53e2 a:=by
   rintro a t (rfl|⟨_,n,hn⟩)
   ·exact 31 t 39e0
   ·have h1:=gJ n a hn;exact 31 t (351 39e0 h1)
  clear h1;have notFA:∀a,a<s.M.O.an->¬FA 53e2 a:=by
   rintro a t ⟨l,hl,e,m,apz⟩;have hl2:l=[ab]:=(aq.G.cE hl).bh;rw[hl2]at m;cases D.cY.mp m;rw[apD]at apz;cases apz;exact 31 t 39e0
  show⟨.a2 ⟨22e6,22e6,[],H,λbi=>ar,22e6,?_,λj=>⟨D.kP,λa t=>nomatch t⟩⟩,⟨λb o e=>?_,λb o e=>P.g5 b o (R b o e)⟩,Lw,.of_eq apn⟩
  ·exact al.mB.bl (238 ar)
  ·have apr:=9e1;cases E:iu o with
   |false=>exact .a2 (P.bR b o (R b o e) E (notFA b apr) (apo b apr) (by rintro⟨p,f,_⟩;exact nomatch f))
   |true=>
    by_cases apx:b=lW
    ·subst apx;have g1:s.M.ao 1391=G (qo w.bU):=by
      show apu (1391,qo w.bU) ?_;have:((40e1).nv (353 1391))=G (1391,qo w.bU):=ar;exact D.uN a9
     have g2:s.M.ao 1395=G (s7 w.bU):=by
      show apu (1395,s7 w.bU) ?_;have:((40e1).nv (353 1395))=G (1395,s7 w.bU):=ar;exact D.uN a9
     have ho:o=qo w.bU:=aq.G.cE (e.bh.aU g1);subst ho;(show aM apB λps hps' j=>?_;try clear apB);show .aD (.a2 ⟨⟨1395,_,_,g2,H,H,H⟩,H,#[],ps,H,?_⟩);rw[hps'];exact bB (λx=>G (apw.Rm x)) (bO.empty_append (xs:=ps)).bh
    ·exact .a2 (P.iV b o (R b o e) E apx)
universe e
end
end Internal
end
theorem PySem.Challenge.cw_nm0174_01_holds : PySem.Challenge.rw_nm0174_01.Holds :=
  Internal.holds_R Internal.said (Internal.call_law Internal.law_ok)
