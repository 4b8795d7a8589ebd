import PyProof.Rows.All
import Wide.All
import OpenK.AllK
import Wide.FinOn
import Lean
import PySem.Challenge.RW_sz0010_01
set_option Elab.async false
set_option linter.all false
set_option maxRecDepth 100000
set_option maxHeartbeats 0
set_option genSizeOf false
set_option genInjectivity false
set_option tactic.hygienic false
open PySem PySem.W PyProof.Rows
namespace Mine
noncomputable abbrev pw:Program:=PySem.Challenge.pw_sz0010_01
abbrev rw0:OpenLaw:=PySem.Challenge.rw_sz0010_01
noncomputable abbrev sx (s:String):Str:=Str.ofString s
noncomputable def Anv:Stmt:=.Pass ⟨0,0,0,0⟩
noncomputable def Ba (i:Nat):Stmt:=pw.main.body.getD i Anv
noncomputable def Ak2:Stmt→List Stmt
 | .ClassDef _ _ _ b _ _ _ _ _ _ _=>b
 | _=>[]
noncomputable def mAt (i j:Nat):Stmt:=(Ak2 (Ba i)).getD j Anv
noncomputable def fA:Stmt→Arguments
 | .FunctionDef _ a _ _ _ _ _ _ _ _=>a
 | _=>⟨[],[],none,[],[],none,[]⟩
noncomputable def fB:Stmt→List Stmt
 | .FunctionDef _ _ b _ _ _ _ _ _ _=>b
 | _=>[]
noncomputable def fS:Stmt→Scope
 | .FunctionDef _ _ _ _ _ _ s _ _ _=>s
 | _=>pw.main.scope
noncomputable abbrev C8 (st:Stmt) (name qual:Str) (dV kV doc pm:Value) (an:Option Addr) (cdv ct:Value):FuncData :=
 fnOf name qual (fA st) (fB st) (fS st) dV kV doc pm an cdv ct
noncomputable abbrev ke (P:Params) (k:String) (t:Tok) (v:Value):DictEntry:=⟨PyData.keyHash P (sx k),.str (sx k) t,v⟩
noncomputable def K (P:Params):Frag:=[
 (3,⟨(.type "dict"),none,(.dict #[ke P "__name__" 165 (.str (sx "law_sz0010_01") 992),ke P "__doc__" 166 .none,ke P "__package__" 167 .none,ke P "__loader__" 168 (.builtin "__main__.__loader__#opaque"),ke P "__spec__" 169 .none,ke P "__annotations__" 170 (.ref 6),ke P "__builtins__" 171 (.ref 4),ke P "__file__" 173 (.str (sx "/claim/cut.py") 172),ke P "__cached__" 174 .none,ke P "MADE" 190 (.str (sx "made") 189),ke P "QUEUED" 192 (.str (sx "queued") 191),ke P "SERVED" 194 (.str (sx "served") 193),ke P "OVER" 196 (.str (sx "over") 195),ke P "EntryCall" 238 (.ref 31),ke P "join_queue" 246 (.ref 42),ke P "leave_queue" 252 (.ref 47),ke P "first_call" 261 (.ref 54),ke P "drain_queues" 267 (.ref 59),ke P "AdaError" 298 (.ref 76),ke P "AdaRaise" 327 (.ref 96),ke P "Deadlock" 352 (.ref 115),ke P "Clock" 382 (.ref 134),ke P "time_after" 390 (.ref 145),ke P "next_time" 399 (.ref 152),ke P "move_clock" 407 (.ref 159),ke P "is_due" 415 (.ref 166),ke P "least_wait" 426 (.ref 173),ke P "FRESH" 430 (.str (sx "fresh") 429),ke P "READY" 432 (.str (sx "ready") 431),ke P "ACTIVATING" 434 (.str (sx "activating") 433),ke P "CALLING" 436 (.str (sx "calling") 435),ke P "MEETING" 438 (.str (sx "meeting") 437),ke P "ACCEPTING" 440 (.str (sx "accepting") 439),ke P "DELAYED" 442 (.str (sx "delayed") 441),ke P "LEAVING" 444 (.str (sx "leaving") 443),ke P "COMPLETED" 446 (.str (sx "completed") 445),ke P "DONE" 448 (.str (sx "done") 447),ke P "TASKING_ERROR" 450 (.str (sx "tasking_error") 449),ke P "PROGRAM_ERROR" 452 (.str (sx "program_error") 451),ke P "TaskThing" 508 (.ref 190),ke P "is_callable" 515 (.ref 201),ke P "wake_up" 524 (.ref 208),ke P "finish_call" 532 (.ref 215),ke P "begin_meeting" 541 (.ref 222),ke P "end_meeting" 550 (.ref 229),ke P "open_index" 561 (.ref 236),ke P "offer_call" 569 (.ref 243),ke P "stops_here" 576 (.ref 250),ke P "call_entry" 589 (.ref 257),ke P "wait_in_queue" 596 (.ref 264),ke P "cancel_call" 603 (.ref 271),ke P "note_lost" 611 (.ref 278),ke P "open_select" 625 (.ref 285),ke P "wait_open" 635 (.ref 292),ke P "delay_task" 644 (.ref 299),ke P "time_is_up" 651 (.ref 306),ke P "Master" 686 (.ref 323),ke P "open_master" 695 (.ref 334),ke P "make_task" 706 (.ref 341),ke P "activate_tasks" 715 (.ref 348),ke P "end_activation" 725 (.ref 355),ke P "are_done" 731 (.ref 360),ke P "end_fresh" 739 (.ref 367),ke P "drop_fresh" 747 (.ref 374),ke P "complete_task" 756 (.ref 381),ke P "end_library" 763 (.ref 388),ke P "is_held" 770 (.ref 395),ke P "end_abnormal" 777 (.ref 402),ke P "settle_abnormal" 786 (.ref 409),ke P "settle_ends" 792 (.ref 414),ke P "can_terminate" 798 (.ref 419),ke P "is_quiet" 807 (.ref 426),ke P "ended_masters" 813 (.ref 431),ke P "terminate_below" 822 (.ref 438),ke P "settle_terminates" 828 (.ref 443),ke P "settle_tasks" 835 (.ref 450),ke P "Limits" 893 (.ref 468),ke P "Tasking" 940 (.ref 496),ke P "ready_tasks" 946 (.ref 505),ke P "waiting_tasks" 952 (.ref 510),ke P "pass_time" 958 (.ref 515),ke P "end_late" 964 (.ref 520),ke P "serve_lost" 973 (.ref 527),ke P "choose_among" 983 (.ref 534),ke P "pick_task" 991 (.ref 541),ke P "_law_feed" 995 (.ref 542),ke P "_law_plan" 1001 (.ref 543),ke P "_law_told" 1010 (.ref 550),ke P "_law_truth" 1016 (.ref 555),ke P "_law_goes_on" 1022 (.ref 560),ke P "_law_is_row" 1032 (.ref 567),ke P "_law_next" 1042 (.ref 574),ke P "_law_hands_on" 1051 (.ref 581),ke P "_law_source_goes" 1060 (.ref 588),ke P "_law_stage_goes" 1071 (.ref 595),ke P "law" 1077 (.ref 600)] 96),#[]⟩)
 ,(27,⟨(.type "code"),none,(.fields #[(.str (sx "__init__") 209),(.str (sx "EntryCall.__init__") 210),(.str (sx "/claim/cut.py") 211),(.int 8 0),(.int 6 0),(.int 0 0),(.int 0 0),(.int 3 0),(.ref 22),(.bool true),(.int 181 0),(.ref 23),.none,(.ref 24),(.ref 25),(.ref 26),(.int 218 0),(.int 8 0),(.str (sx "/claim/cut.py") 219)]),#[]⟩)
 ,(28,⟨(.type "function"),none,(.func (C8 (mAt 5 0) (sx "__init__") (sx "EntryCall.__init__") .none .none .none (.str (sx "adacore.entryqueues") 187) none (.ref 27) .none)),#[]⟩)
 ,(30,⟨(.type "dict"),none,(.dict #[ke P "__module__" 204 (.str (sx "adacore.entryqueues") 187),ke P "__firstlineno__" 208 (.int 6 207),ke P "__init__" 220 (.ref 28),ke P "__static_attributes__" 231 (.ref 29),ke P "__dict__" 233 (.ref 32),ke P "__weakref__" 235 (.ref 33),ke P "__doc__" 236 .none] 4),#[]⟩)
 ,(31,⟨(.type "type"),none,(.cls { name:=(sx "EntryCall"),bases:=[(.type "object")],mro:=[(.ref 31),(.type "object")],ns:=30,qualname:=(sx "EntryCall"),hasDict:=true,slotNames:=[],subclasses:=[],abstract:=false,collection:=none,hasDel:=false }),#[none,none,(some (.str (sx "EntryCall") 197)),(some (.str (sx "EntryCall") 205)),(some (.builtin "object.__new__")),(some (.bool true))]⟩)
 ,(41,⟨(.type "code"),none,(.fields #[(.str (sx "join_queue") 239),(.str (sx "join_queue") 240),(.str (sx "/claim/cut.py") 241),(.int 19 0),(.int 2 0),(.int 0 0),(.int 0 0),(.int 3 0),(.ref 36),(.bool true),(.int 181 0),(.ref 37),.none,(.ref 38),(.ref 39),(.ref 40),(.int 244 0),(.int 19 0),(.str (sx "/claim/cut.py") 245)]),#[]⟩)
 ,(42,⟨(.type "function"),none,(.func (C8 (Ba 6) (sx "join_queue") (sx "join_queue") .none .none .none (.str (sx "adacore.entryqueues") 187) none (.ref 41) .none)),#[]⟩)
 ,(46,⟨(.type "code"),none,(.fields #[(.str (sx "leave_queue") 247),(.str (sx "leave_queue") 248),(.str (sx "/claim/cut.py") 249),(.int 24 0),(.int 2 0),(.int 0 0),(.int 0 0),(.int 3 0),(.ref 43),(.bool true),(.int 181 0),(.ref 44),.none,.none,.none,(.ref 45),(.int 250 0),(.int 24 0),(.str (sx "/claim/cut.py") 251)]),#[]⟩)
 ,(47,⟨(.type "function"),none,(.func (C8 (Ba 7) (sx "leave_queue") (sx "leave_queue") .none .none .none (.str (sx "adacore.entryqueues") 187) none (.ref 46) .none)),#[]⟩)
 ,(53,⟨(.type "code"),none,(.fields #[(.str (sx "first_call") 253),(.str (sx "first_call") 254),(.str (sx "/claim/cut.py") 255),(.int 30 0),(.int 2 0),(.int 0 0),(.int 0 0),(.int 3 0),(.ref 48),(.bool true),(.int 181 0),(.ref 49),.none,(.ref 50),(.ref 51),(.ref 52),(.int 259 0),(.int 30 0),(.str (sx "/claim/cut.py") 260)]),#[]⟩)
 ,(54,⟨(.type "function"),none,(.func (C8 (Ba 8) (sx "first_call") (sx "first_call") .none .none .none (.str (sx "adacore.entryqueues") 187) none (.ref 53) .none)),#[]⟩)
 ,(58,⟨(.type "code"),none,(.fields #[(.str (sx "drain_queues") 262),(.str (sx "drain_queues") 263),(.str (sx "/claim/cut.py") 264),(.int 33 0),(.int 1 0),(.int 0 0),(.int 0 0),(.int 3 0),(.ref 55),(.bool true),(.int 181 0),(.ref 56),.none,.none,.none,(.ref 57),(.int 265 0),(.int 33 0),(.str (sx "/claim/cut.py") 266)]),#[]⟩)
 ,(59,⟨(.type "function"),none,(.func (C8 (Ba 9) (sx "drain_queues") (sx "drain_queues") .none .none .none (.str (sx "adacore.entryqueues") 187) none (.ref 58) .none)),#[]⟩)
 ,(72,⟨(.type "code"),none,(.fields #[(.str (sx "__init__") 282),(.str (sx "AdaError.__init__") 283),(.str (sx "/claim/cut.py") 284),(.int 43 0),(.int 2 0),(.int 0 0),(.int 0 0),(.int 3 0),(.ref 67),(.bool true),(.int 181 0),(.ref 68),.none,(.ref 69),(.ref 70),(.ref 71),(.int 287 0),(.int 43 0),(.str (sx "/claim/cut.py") 288)]),#[]⟩)
 ,(73,⟨(.type "function"),none,(.func (C8 (mAt 11 0) (sx "__init__") (sx "AdaError.__init__") .none .none .none (.str (sx "adacore.errors") 268) none (.ref 72) .none)),#[]⟩)
 ,(75,⟨(.type "dict"),none,(.dict #[ke P "__module__" 277 (.str (sx "adacore.errors") 268),ke P "__firstlineno__" 281 (.int 41 280),ke P "__init__" 289 (.ref 73),ke P "__static_attributes__" 291 (.ref 74),ke P "__weakref__" 293 (.ref 77),ke P "__doc__" 294 .none] 3),#[]⟩)
 ,(76,⟨(.type "type"),none,(.cls { name:=(sx "AdaError"),bases:=[(.type "Exception")],mro:=[(.ref 76),(.type "Exception"),(.type "BaseException"),(.type "object")],ns:=75,qualname:=(sx "AdaError"),hasDict:=true,slotNames:=[],subclasses:=[(.ref 96),(.ref 115)],abstract:=false,collection:=none,hasDel:=false }),#[(some (.ref 60)),none,(some (.str (sx "AdaError") 270)),(some (.str (sx "AdaError") 278)),(some (.builtin "Exception.__new__")),(some (.bool true))]⟩)
 ,(92,⟨(.type "code"),none,(.fields #[(.str (sx "__init__") 311),(.str (sx "AdaRaise.__init__") 312),(.str (sx "/claim/cut.py") 313),(.int 48 0),(.int 4 0),(.int 0 0),(.int 0 0),(.int 3 0),(.ref 87),(.bool true),(.int 181 0),(.ref 88),.none,(.ref 89),(.ref 90),(.ref 91),(.int 318 0),(.int 48 0),(.str (sx "/claim/cut.py") 319)]),#[]⟩)
 ,(93,⟨(.type "function"),none,(.func (C8 (mAt 12 0) (sx "__init__") (sx "AdaRaise.__init__") .none .none .none (.str (sx "adacore.errors") 268) none (.ref 92) .none)),#[]⟩)
 ,(95,⟨(.type "dict"),none,(.dict #[ke P "__module__" 306 (.str (sx "adacore.errors") 268),ke P "__firstlineno__" 310 (.int 46 309),ke P "__init__" 320 (.ref 93),ke P "__static_attributes__" 324 (.ref 94),ke P "__doc__" 325 .none] 2),#[]⟩)
 ,(96,⟨(.type "type"),none,(.cls { name:=(sx "AdaRaise"),bases:=[(.ref 76)],mro:=[(.ref 96),(.ref 76),(.type "Exception"),(.type "BaseException"),(.type "object")],ns:=95,qualname:=(sx "AdaRaise"),hasDict:=true,slotNames:=[],subclasses:=[],abstract:=false,collection:=none,hasDel:=false }),#[(some (.ref 80)),none,(some (.str (sx "AdaRaise") 299)),(some (.str (sx "AdaRaise") 307)),(some (.builtin "Exception.__new__")),(some (.bool true))]⟩)
 ,(111,⟨(.type "code"),none,(.fields #[(.str (sx "__init__") 340),(.str (sx "Deadlock.__init__") 341),(.str (sx "/claim/cut.py") 342),(.int 55 0),(.int 2 0),(.int 0 0),(.int 0 0),(.int 3 0),(.ref 106),(.bool true),(.int 181 0),(.ref 107),.none,(.ref 108),(.ref 109),(.ref 110),(.int 345 0),(.int 55 0),(.str (sx "/claim/cut.py") 346)]),#[]⟩)
 ,(112,⟨(.type "function"),none,(.func (C8 (mAt 13 0) (sx "__init__") (sx "Deadlock.__init__") .none .none .none (.str (sx "adacore.errors") 268) none (.ref 111) .none)),#[]⟩)
 ,(114,⟨(.type "dict"),none,(.dict #[ke P "__module__" 335 (.str (sx "adacore.errors") 268),ke P "__firstlineno__" 339 (.int 53 338),ke P "__init__" 347 (.ref 112),ke P "__static_attributes__" 349 (.ref 113),ke P "__doc__" 350 .none] 2),#[]⟩)
 ,(115,⟨(.type "type"),none,(.cls { name:=(sx "Deadlock"),bases:=[(.ref 76)],mro:=[(.ref 115),(.ref 76),(.type "Exception"),(.type "BaseException"),(.type "object")],ns:=114,qualname:=(sx "Deadlock"),hasDict:=true,slotNames:=[],subclasses:=[],abstract:=false,collection:=none,hasDel:=false }),#[(some (.ref 99)),none,(some (.str (sx "Deadlock") 328)),(some (.str (sx "Deadlock") 336)),(some (.builtin "Exception.__new__")),(some (.bool true))]⟩)
 ,(130,⟨(.type "code"),none,(.fields #[(.str (sx "__init__") 367),(.str (sx "Clock.__init__") 368),(.str (sx "/claim/cut.py") 369),(.int 61 0),(.int 1 0),(.int 0 0),(.int 0 0),(.int 3 0),(.ref 125),(.bool true),(.int 181 0),(.ref 126),.none,(.ref 127),(.ref 128),(.ref 129),(.int 371 0),(.int 61 0),(.str (sx "/claim/cut.py") 372)]),#[]⟩)
 ,(131,⟨(.type "function"),none,(.func (C8 (mAt 15 0) (sx "__init__") (sx "Clock.__init__") .none .none .none (.str (sx "adacore.clock") 353) none (.ref 130) .none)),#[]⟩)
 ,(133,⟨(.type "dict"),none,(.dict #[ke P "__module__" 362 (.str (sx "adacore.clock") 353),ke P "__firstlineno__" 366 (.int 59 365),ke P "__init__" 373 (.ref 131),ke P "__static_attributes__" 375 (.ref 132),ke P "__dict__" 377 (.ref 135),ke P "__weakref__" 379 (.ref 136),ke P "__doc__" 380 .none] 4),#[]⟩)
 ,(134,⟨(.type "type"),none,(.cls { name:=(sx "Clock"),bases:=[(.type "object")],mro:=[(.ref 134),(.type "object")],ns:=133,qualname:=(sx "Clock"),hasDict:=true,slotNames:=[],subclasses:=[],abstract:=false,collection:=none,hasDel:=false }),#[none,none,(some (.str (sx "Clock") 355)),(some (.str (sx "Clock") 363)),(some (.builtin "object.__new__")),(some (.bool true))]⟩)
 ,(144,⟨(.type "code"),none,(.fields #[(.str (sx "time_after") 383),(.str (sx "time_after") 384),(.str (sx "/claim/cut.py") 385),(.int 63 0),(.int 2 0),(.int 0 0),(.int 0 0),(.int 3 0),(.ref 139),(.bool true),(.int 181 0),(.ref 140),.none,(.ref 141),(.ref 142),(.ref 143),(.int 388 0),(.int 63 0),(.str (sx "/claim/cut.py") 389)]),#[]⟩)
 ,(145,⟨(.type "function"),none,(.func (C8 (Ba 16) (sx "time_after") (sx "time_after") .none .none .none (.str (sx "adacore.clock") 353) none (.ref 144) .none)),#[]⟩)
 ,(151,⟨(.type "code"),none,(.fields #[(.str (sx "next_time") 391),(.str (sx "next_time") 392),(.str (sx "/claim/cut.py") 393),(.int 65 0),(.int 1 0),(.int 0 0),(.int 0 0),(.int 3 0),(.ref 146),(.bool true),(.int 181 0),(.ref 147),.none,(.ref 148),(.ref 149),(.ref 150),(.int 397 0),(.int 65 0),(.str (sx "/claim/cut.py") 398)]),#[]⟩)
 ,(152,⟨(.type "function"),none,(.func (C8 (Ba 17) (sx "next_time") (sx "next_time") .none .none .none (.str (sx "adacore.clock") 353) none (.ref 151) .none)),#[]⟩)
 ,(158,⟨(.type "code"),none,(.fields #[(.str (sx "move_clock") 400),(.str (sx "move_clock") 401),(.str (sx "/claim/cut.py") 402),(.int 71 0),(.int 2 0),(.int 0 0),(.int 0 0),(.int 3 0),(.ref 153),(.bool true),(.int 181 0),(.ref 154),.none,(.ref 155),(.ref 156),(.ref 157),(.int 405 0),(.int 71 0),(.str (sx "/claim/cut.py") 406)]),#[]⟩)
 ,(159,⟨(.type "function"),none,(.func (C8 (Ba 18) (sx "move_clock") (sx "move_clock") .none .none .none (.str (sx "adacore.clock") 353) none (.ref 158) .none)),#[]⟩)
 ,(165,⟨(.type "code"),none,(.fields #[(.str (sx "is_due") 408),(.str (sx "is_due") 409),(.str (sx "/claim/cut.py") 410),(.int 73 0),(.int 2 0),(.int 0 0),(.int 0 0),(.int 3 0),(.ref 160),(.bool true),(.int 181 0),(.ref 161),.none,(.ref 162),(.ref 163),(.ref 164),(.int 413 0),(.int 73 0),(.str (sx "/claim/cut.py") 414)]),#[]⟩)
 ,(166,⟨(.type "function"),none,(.func (C8 (Ba 19) (sx "is_due") (sx "is_due") .none .none .none (.str (sx "adacore.clock") 353) none (.ref 165) .none)),#[]⟩)
 ,(172,⟨(.type "code"),none,(.fields #[(.str (sx "least_wait") 416),(.str (sx "least_wait") 417),(.str (sx "/claim/cut.py") 418),(.int 75 0),(.int 1 0),(.int 0 0),(.int 0 0),(.int 3 0),(.ref 167),(.bool true),(.int 181 0),(.ref 168),.none,(.ref 169),(.ref 170),(.ref 171),(.int 424 0),(.int 75 0),(.str (sx "/claim/cut.py") 425)]),#[]⟩)
 ,(173,⟨(.type "function"),none,(.func (C8 (Ba 20) (sx "least_wait") (sx "least_wait") .none .none .none (.str (sx "adacore.clock") 353) none (.ref 172) .none)),#[]⟩)
 ,(186,⟨(.type "code"),none,(.fields #[(.str (sx "__init__") 465),(.str (sx "TaskThing.__init__") 466),(.str (sx "/claim/cut.py") 467),(.int 96 0),(.int 4 0),(.int 0 0),(.int 0 0),(.int 3 0),(.ref 181),(.bool true),(.int 181 0),(.ref 182),.none,(.ref 183),(.ref 184),(.ref 185),(.int 472 0),(.int 96 0),(.str (sx "/claim/cut.py") 473)]),#[]⟩)
 ,(187,⟨(.type "function"),none,(.func (C8 (mAt 34 0) (sx "__init__") (sx "TaskThing.__init__") .none .none .none (.str (sx "adacore.rendezvous") 427) none (.ref 186) .none)),#[]⟩)
 ,(189,⟨(.type "dict"),none,(.dict #[ke P "__module__" 460 (.str (sx "adacore.rendezvous") 427),ke P "__firstlineno__" 464 (.int 94 463),ke P "__init__" 474 (.ref 187),ke P "__static_attributes__" 501 (.ref 188),ke P "__dict__" 503 (.ref 191),ke P "__weakref__" 505 (.ref 192),ke P "__doc__" 506 .none] 4),#[]⟩)
 ,(190,⟨(.type "type"),none,(.cls { name:=(sx "TaskThing"),bases:=[(.type "object")],mro:=[(.ref 190),(.type "object")],ns:=189,qualname:=(sx "TaskThing"),hasDict:=true,slotNames:=[],subclasses:=[],abstract:=false,collection:=none,hasDel:=false }),#[none,none,(some (.str (sx "TaskThing") 453)),(some (.str (sx "TaskThing") 461)),(some (.builtin "object.__new__")),(some (.bool true))]⟩)
 ,(200,⟨(.type "code"),none,(.fields #[(.str (sx "is_callable") 509),(.str (sx "is_callable") 510),(.str (sx "/claim/cut.py") 511),(.int 123 0),(.int 1 0),(.int 0 0),(.int 0 0),(.int 3 0),(.ref 195),(.bool true),(.int 181 0),(.ref 196),.none,(.ref 197),(.ref 198),(.ref 199),(.int 513 0),(.int 123 0),(.str (sx "/claim/cut.py") 514)]),#[]⟩)
 ,(201,⟨(.type "function"),none,(.func (C8 (Ba 35) (sx "is_callable") (sx "is_callable") .none .none .none (.str (sx "adacore.rendezvous") 427) none (.ref 200) .none)),#[]⟩)
 ,(207,⟨(.type "code"),none,(.fields #[(.str (sx "wake_up") 516),(.str (sx "wake_up") 517),(.str (sx "/claim/cut.py") 518),(.int 125 0),(.int 3 0),(.int 0 0),(.int 0 0),(.int 3 0),(.ref 202),(.bool true),(.int 181 0),(.ref 203),.none,(.ref 204),(.ref 205),(.ref 206),(.int 522 0),(.int 125 0),(.str (sx "/claim/cut.py") 523)]),#[]⟩)
 ,(208,⟨(.type "function"),none,(.func (C8 (Ba 36) (sx "wake_up") (sx "wake_up") .none .none .none (.str (sx "adacore.rendezvous") 427) none (.ref 207) .none)),#[]⟩)
 ,(214,⟨(.type "code"),none,(.fields #[(.str (sx "finish_call") 525),(.str (sx "finish_call") 526),(.str (sx "/claim/cut.py") 527),(.int 132 0),(.int 2 0),(.int 0 0),(.int 0 0),(.int 3 0),(.ref 209),(.bool true),(.int 181 0),(.ref 210),.none,(.ref 211),(.ref 212),(.ref 213),(.int 530 0),(.int 132 0),(.str (sx "/claim/cut.py") 531)]),#[]⟩)
 ,(215,⟨(.type "function"),none,(.func (C8 (Ba 37) (sx "finish_call") (sx "finish_call") .none .none .none (.str (sx "adacore.rendezvous") 427) none (.ref 214) .none)),#[]⟩)
 ,(221,⟨(.type "code"),none,(.fields #[(.str (sx "begin_meeting") 533),(.str (sx "begin_meeting") 534),(.str (sx "/claim/cut.py") 535),(.int 137 0),(.int 3 0),(.int 0 0),(.int 0 0),(.int 3 0),(.ref 216),(.bool true),(.int 181 0),(.ref 217),.none,(.ref 218),(.ref 219),(.ref 220),(.int 539 0),(.int 137 0),(.str (sx "/claim/cut.py") 540)]),#[]⟩)
 ,(222,⟨(.type "function"),none,(.func (C8 (Ba 38) (sx "begin_meeting") (sx "begin_meeting") .none .none .none (.str (sx "adacore.rendezvous") 427) none (.ref 221) .none)),#[]⟩)
 ,(228,⟨(.type "code"),none,(.fields #[(.str (sx "end_meeting") 542),(.str (sx "end_meeting") 543),(.str (sx "/claim/cut.py") 544),(.int 143 0),(.int 2 0),(.int 0 0),(.int 0 0),(.int 3 0),(.ref 223),(.bool true),(.int 181 0),(.ref 224),.none,(.ref 225),(.ref 226),(.ref 227),(.int 548 0),(.int 143 0),(.str (sx "/claim/cut.py") 549)]),#[]⟩)
 ,(229,⟨(.type "function"),none,(.func (C8 (Ba 39) (sx "end_meeting") (sx "end_meeting") .none .none .none (.str (sx "adacore.rendezvous") 427) none (.ref 228) .none)),#[]⟩)
 ,(235,⟨(.type "code"),none,(.fields #[(.str (sx "open_index") 551),(.str (sx "open_index") 552),(.str (sx "/claim/cut.py") 553),(.int 146 0),(.int 2 0),(.int 0 0),(.int 0 0),(.int 3 0),(.ref 230),(.bool true),(.int 181 0),(.ref 231),.none,(.ref 232),(.ref 233),(.ref 234),(.int 559 0),(.int 146 0),(.str (sx "/claim/cut.py") 560)]),#[]⟩)
 ,(236,⟨(.type "function"),none,(.func (C8 (Ba 40) (sx "open_index") (sx "open_index") .none .none .none (.str (sx "adacore.rendezvous") 427) none (.ref 235) .none)),#[]⟩)
 ,(242,⟨(.type "code"),none,(.fields #[(.str (sx "offer_call") 562),(.str (sx "offer_call") 563),(.str (sx "/claim/cut.py") 564),(.int 153 0),(.int 1 0),(.int 0 0),(.int 0 0),(.int 3 0),(.ref 237),(.bool true),(.int 181 0),(.ref 238),.none,(.ref 239),(.ref 240),(.ref 241),(.int 567 0),(.int 153 0),(.str (sx "/claim/cut.py") 568)]),#[]⟩)
 ,(243,⟨(.type "function"),none,(.func (C8 (Ba 41) (sx "offer_call") (sx "offer_call") .none .none .none (.str (sx "adacore.rendezvous") 427) none (.ref 242) .none)),#[]⟩)
 ,(249,⟨(.type "code"),none,(.fields #[(.str (sx "stops_here") 570),(.str (sx "stops_here") 571),(.str (sx "/claim/cut.py") 572),(.int 159 0),(.int 1 0),(.int 0 0),(.int 0 0),(.int 3 0),(.ref 244),(.bool true),(.int 181 0),(.ref 245),.none,(.ref 246),(.ref 247),(.ref 248),(.int 574 0),(.int 159 0),(.str (sx "/claim/cut.py") 575)]),#[]⟩)
 ,(250,⟨(.type "function"),none,(.func (C8 (Ba 42) (sx "stops_here") (sx "stops_here") .none .none .none (.str (sx "adacore.rendezvous") 427) none (.ref 249) .none)),#[]⟩)
 ,(256,⟨(.type "code"),none,(.fields #[(.str (sx "call_entry") 577),(.str (sx "call_entry") 578),(.str (sx "/claim/cut.py") 579),(.int 164 0),(.int 6 0),(.int 0 0),(.int 0 0),(.int 3 0),(.ref 251),(.bool true),(.int 181 0),(.ref 252),.none,(.ref 253),(.ref 254),(.ref 255),(.int 587 0),(.int 164 0),(.str (sx "/claim/cut.py") 588)]),#[]⟩)
 ,(257,⟨(.type "function"),none,(.func (C8 (Ba 43) (sx "call_entry") (sx "call_entry") .none .none .none (.str (sx "adacore.rendezvous") 427) none (.ref 256) .none)),#[]⟩)
 ,(263,⟨(.type "code"),none,(.fields #[(.str (sx "wait_in_queue") 590),(.str (sx "wait_in_queue") 591),(.str (sx "/claim/cut.py") 592),(.int 185 0),(.int 1 0),(.int 0 0),(.int 0 0),(.int 3 0),(.ref 258),(.bool true),(.int 181 0),(.ref 259),.none,(.ref 260),(.ref 261),(.ref 262),(.int 594 0),(.int 185 0),(.str (sx "/claim/cut.py") 595)]),#[]⟩)
 ,(264,⟨(.type "function"),none,(.func (C8 (Ba 44) (sx "wait_in_queue") (sx "wait_in_queue") .none .none .none (.str (sx "adacore.rendezvous") 427) none (.ref 263) .none)),#[]⟩)
 ,(270,⟨(.type "code"),none,(.fields #[(.str (sx "cancel_call") 597),(.str (sx "cancel_call") 598),(.str (sx "/claim/cut.py") 599),(.int 189 0),(.int 1 0),(.int 0 0),(.int 0 0),(.int 3 0),(.ref 265),(.bool true),(.int 181 0),(.ref 266),.none,(.ref 267),(.ref 268),(.ref 269),(.int 601 0),(.int 189 0),(.str (sx "/claim/cut.py") 602)]),#[]⟩)
 ,(271,⟨(.type "function"),none,(.func (C8 (Ba 45) (sx "cancel_call") (sx "cancel_call") .none .none .none (.str (sx "adacore.rendezvous") 427) none (.ref 270) .none)),#[]⟩)
 ,(277,⟨(.type "code"),none,(.fields #[(.str (sx "note_lost") 604),(.str (sx "note_lost") 605),(.str (sx "/claim/cut.py") 606),(.int 193 0),(.int 2 0),(.int 0 0),(.int 0 0),(.int 3 0),(.ref 272),(.bool true),(.int 181 0),(.ref 273),.none,(.ref 274),(.ref 275),(.ref 276),(.int 609 0),(.int 193 0),(.str (sx "/claim/cut.py") 610)]),#[]⟩)
 ,(278,⟨(.type "function"),none,(.func (C8 (Ba 46) (sx "note_lost") (sx "note_lost") .none .none .none (.str (sx "adacore.rendezvous") 427) none (.ref 277) .none)),#[]⟩)
 ,(284,⟨(.type "code"),none,(.fields #[(.str (sx "open_select") 612),(.str (sx "open_select") 613),(.str (sx "/claim/cut.py") 614),(.int 196 0),(.int 4 0),(.int 0 0),(.int 0 0),(.int 3 0),(.ref 279),(.bool true),(.int 181 0),(.ref 280),.none,(.ref 281),(.ref 282),(.ref 283),(.int 623 0),(.int 196 0),(.str (sx "/claim/cut.py") 624)]),#[]⟩)
 ,(285,⟨(.type "function"),none,(.func (C8 (Ba 47) (sx "open_select") (sx "open_select") .none .none .none (.str (sx "adacore.rendezvous") 427) none (.ref 284) .none)),#[]⟩)
 ,(291,⟨(.type "code"),none,(.fields #[(.str (sx "wait_open") 626),(.str (sx "wait_open") 627),(.str (sx "/claim/cut.py") 628),(.int 214 0),(.int 3 0),(.int 0 0),(.int 0 0),(.int 3 0),(.ref 286),(.bool true),(.int 181 0),(.ref 287),.none,(.ref 288),(.ref 289),(.ref 290),(.int 633 0),(.int 214 0),(.str (sx "/claim/cut.py") 634)]),#[]⟩)
 ,(292,⟨(.type "function"),none,(.func (C8 (Ba 48) (sx "wait_open") (sx "wait_open") .none .none .none (.str (sx "adacore.rendezvous") 427) none (.ref 291) .none)),#[]⟩)
 ,(298,⟨(.type "code"),none,(.fields #[(.str (sx "delay_task") 636),(.str (sx "delay_task") 637),(.str (sx "/claim/cut.py") 638),(.int 224 0),(.int 3 0),(.int 0 0),(.int 0 0),(.int 3 0),(.ref 293),(.bool true),(.int 181 0),(.ref 294),.none,(.ref 295),(.ref 296),(.ref 297),(.int 642 0),(.int 224 0),(.str (sx "/claim/cut.py") 643)]),#[]⟩)
 ,(299,⟨(.type "function"),none,(.func (C8 (Ba 49) (sx "delay_task") (sx "delay_task") .none .none .none (.str (sx "adacore.rendezvous") 427) none (.ref 298) .none)),#[]⟩)
 ,(305,⟨(.type "code"),none,(.fields #[(.str (sx "time_is_up") 645),(.str (sx "time_is_up") 646),(.str (sx "/claim/cut.py") 647),(.int 230 0),(.int 1 0),(.int 0 0),(.int 0 0),(.int 3 0),(.ref 300),(.bool true),(.int 181 0),(.ref 301),.none,(.ref 302),(.ref 303),(.ref 304),(.int 649 0),(.int 230 0),(.str (sx "/claim/cut.py") 650)]),#[]⟩)
 ,(306,⟨(.type "function"),none,(.func (C8 (Ba 50) (sx "time_is_up") (sx "time_is_up") .none .none .none (.str (sx "adacore.rendezvous") 427) none (.ref 305) .none)),#[]⟩)
 ,(319,⟨(.type "code"),none,(.fields #[(.str (sx "__init__") 666),(.str (sx "Master.__init__") 667),(.str (sx "/claim/cut.py") 668),(.int 241 0),(.int 3 0),(.int 0 0),(.int 0 0),(.int 3 0),(.ref 314),(.bool true),(.int 181 0),(.ref 315),.none,(.ref 316),(.ref 317),(.ref 318),(.int 672 0),(.int 241 0),(.str (sx "/claim/cut.py") 673)]),#[]⟩)
 ,(320,⟨(.type "function"),none,(.func (C8 (mAt 52 0) (sx "__init__") (sx "Master.__init__") .none .none .none (.str (sx "adacore.masters") 652) none (.ref 319) .none)),#[]⟩)
 ,(322,⟨(.type "dict"),none,(.dict #[ke P "__module__" 661 (.str (sx "adacore.masters") 652),ke P "__firstlineno__" 665 (.int 239 664),ke P "__init__" 674 (.ref 320),ke P "__static_attributes__" 679 (.ref 321),ke P "__dict__" 681 (.ref 324),ke P "__weakref__" 683 (.ref 325),ke P "__doc__" 684 .none] 4),#[]⟩)
 ,(323,⟨(.type "type"),none,(.cls { name:=(sx "Master"),bases:=[(.type "object")],mro:=[(.ref 323),(.type "object")],ns:=322,qualname:=(sx "Master"),hasDict:=true,slotNames:=[],subclasses:=[],abstract:=false,collection:=none,hasDel:=false }),#[none,none,(some (.str (sx "Master") 654)),(some (.str (sx "Master") 662)),(some (.builtin "object.__new__")),(some (.bool true))]⟩)
 ,(333,⟨(.type "code"),none,(.fields #[(.str (sx "open_master") 687),(.str (sx "open_master") 688),(.str (sx "/claim/cut.py") 689),(.int 246 0),(.int 2 0),(.int 0 0),(.int 0 0),(.int 3 0),(.ref 328),(.bool true),(.int 181 0),(.ref 329),.none,(.ref 330),(.ref 331),(.ref 332),(.int 693 0),(.int 246 0),(.str (sx "/claim/cut.py") 694)]),#[]⟩)
 ,(334,⟨(.type "function"),none,(.func (C8 (Ba 53) (sx "open_master") (sx "open_master") .none .none .none (.str (sx "adacore.masters") 652) none (.ref 333) .none)),#[]⟩)
 ,(340,⟨(.type "code"),none,(.fields #[(.str (sx "make_task") 696),(.str (sx "make_task") 697),(.str (sx "/claim/cut.py") 698),(.int 250 0),(.int 4 0),(.int 0 0),(.int 0 0),(.int 3 0),(.ref 335),(.bool true),(.int 181 0),(.ref 336),.none,(.ref 337),(.ref 338),(.ref 339),(.int 704 0),(.int 250 0),(.str (sx "/claim/cut.py") 705)]),#[]⟩)
 ,(341,⟨(.type "function"),none,(.func (C8 (Ba 54) (sx "make_task") (sx "make_task") .none .none .none (.str (sx "adacore.masters") 652) none (.ref 340) .none)),#[]⟩)
 ,(347,⟨(.type "code"),none,(.fields #[(.str (sx "activate_tasks") 707),(.str (sx "activate_tasks") 708),(.str (sx "/claim/cut.py") 709),(.int 258 0),(.int 2 0),(.int 0 0),(.int 0 0),(.int 3 0),(.ref 342),(.bool true),(.int 181 0),(.ref 343),.none,(.ref 344),(.ref 345),(.ref 346),(.int 713 0),(.int 258 0),(.str (sx "/claim/cut.py") 714)]),#[]⟩)
 ,(348,⟨(.type "function"),none,(.func (C8 (Ba 55) (sx "activate_tasks") (sx "activate_tasks") .none .none .none (.str (sx "adacore.masters") 652) none (.ref 347) .none)),#[]⟩)
 ,(354,⟨(.type "code"),none,(.fields #[(.str (sx "end_activation") 716),(.str (sx "end_activation") 717),(.str (sx "/claim/cut.py") 718),(.int 266 0),(.int 2 0),(.int 0 0),(.int 0 0),(.int 3 0),(.ref 349),(.bool true),(.int 181 0),(.ref 350),.none,(.ref 351),(.ref 352),(.ref 353),(.int 723 0),(.int 266 0),(.str (sx "/claim/cut.py") 724)]),#[]⟩)
 ,(355,⟨(.type "function"),none,(.func (C8 (Ba 56) (sx "end_activation") (sx "end_activation") .none .none .none (.str (sx "adacore.masters") 652) none (.ref 354) .none)),#[]⟩)
 ,(359,⟨(.type "code"),none,(.fields #[(.str (sx "are_done") 726),(.str (sx "are_done") 727),(.str (sx "/claim/cut.py") 728),(.int 277 0),(.int 1 0),(.int 0 0),(.int 0 0),(.int 3 0),(.ref 356),(.bool true),(.int 181 0),(.ref 357),.none,.none,.none,(.ref 358),(.int 729 0),(.int 277 0),(.str (sx "/claim/cut.py") 730)]),#[]⟩)
 ,(360,⟨(.type "function"),none,(.func (C8 (Ba 57) (sx "are_done") (sx "are_done") .none .none .none (.str (sx "adacore.masters") 652) none (.ref 359) .none)),#[]⟩)
 ,(366,⟨(.type "code"),none,(.fields #[(.str (sx "end_fresh") 732),(.str (sx "end_fresh") 733),(.str (sx "/claim/cut.py") 734),(.int 279 0),(.int 1 0),(.int 0 0),(.int 0 0),(.int 3 0),(.ref 361),(.bool true),(.int 181 0),(.ref 362),.none,(.ref 363),(.ref 364),(.ref 365),(.int 737 0),(.int 279 0),(.str (sx "/claim/cut.py") 738)]),#[]⟩)
 ,(367,⟨(.type "function"),none,(.func (C8 (Ba 58) (sx "end_fresh") (sx "end_fresh") .none .none .none (.str (sx "adacore.masters") 652) none (.ref 366) .none)),#[]⟩)
 ,(373,⟨(.type "code"),none,(.fields #[(.str (sx "drop_fresh") 740),(.str (sx "drop_fresh") 741),(.str (sx "/claim/cut.py") 742),(.int 283 0),(.int 1 0),(.int 0 0),(.int 0 0),(.int 3 0),(.ref 368),(.bool true),(.int 181 0),(.ref 369),.none,(.ref 370),(.ref 371),(.ref 372),(.int 745 0),(.int 283 0),(.str (sx "/claim/cut.py") 746)]),#[]⟩)
 ,(374,⟨(.type "function"),none,(.func (C8 (Ba 59) (sx "drop_fresh") (sx "drop_fresh") .none .none .none (.str (sx "adacore.masters") 652) none (.ref 373) .none)),#[]⟩)
 ,(380,⟨(.type "code"),none,(.fields #[(.str (sx "complete_task") 748),(.str (sx "complete_task") 749),(.str (sx "/claim/cut.py") 750),(.int 287 0),(.int 1 0),(.int 0 0),(.int 0 0),(.int 3 0),(.ref 375),(.bool true),(.int 181 0),(.ref 376),.none,(.ref 377),(.ref 378),(.ref 379),(.int 754 0),(.int 287 0),(.str (sx "/claim/cut.py") 755)]),#[]⟩)
 ,(381,⟨(.type "function"),none,(.func (C8 (Ba 60) (sx "complete_task") (sx "complete_task") .none .none .none (.str (sx "adacore.masters") 652) none (.ref 380) .none)),#[]⟩)
 ,(387,⟨(.type "code"),none,(.fields #[(.str (sx "end_library") 757),(.str (sx "end_library") 758),(.str (sx "/claim/cut.py") 759),(.int 299 0),(.int 1 0),(.int 0 0),(.int 0 0),(.int 3 0),(.ref 382),(.bool true),(.int 181 0),(.ref 383),.none,(.ref 384),(.ref 385),(.ref 386),(.int 761 0),(.int 299 0),(.str (sx "/claim/cut.py") 762)]),#[]⟩)
 ,(388,⟨(.type "function"),none,(.func (C8 (Ba 61) (sx "end_library") (sx "end_library") .none .none .none (.str (sx "adacore.masters") 652) none (.ref 387) .none)),#[]⟩)
 ,(394,⟨(.type "code"),none,(.fields #[(.str (sx "is_held") 764),(.str (sx "is_held") 765),(.str (sx "/claim/cut.py") 766),(.int 302 0),(.int 1 0),(.int 0 0),(.int 0 0),(.int 3 0),(.ref 389),(.bool true),(.int 181 0),(.ref 390),.none,(.ref 391),(.ref 392),(.ref 393),(.int 768 0),(.int 302 0),(.str (sx "/claim/cut.py") 769)]),#[]⟩)
 ,(395,⟨(.type "function"),none,(.func (C8 (Ba 62) (sx "is_held") (sx "is_held") .none .none .none (.str (sx "adacore.masters") 652) none (.ref 394) .none)),#[]⟩)
 ,(401,⟨(.type "code"),none,(.fields #[(.str (sx "end_abnormal") 771),(.str (sx "end_abnormal") 772),(.str (sx "/claim/cut.py") 773),(.int 306 0),(.int 1 0),(.int 0 0),(.int 0 0),(.int 3 0),(.ref 396),(.bool true),(.int 181 0),(.ref 397),.none,(.ref 398),(.ref 399),(.ref 400),(.int 775 0),(.int 306 0),(.str (sx "/claim/cut.py") 776)]),#[]⟩)
 ,(402,⟨(.type "function"),none,(.func (C8 (Ba 63) (sx "end_abnormal") (sx "end_abnormal") .none .none .none (.str (sx "adacore.masters") 652) none (.ref 401) .none)),#[]⟩)
 ,(408,⟨(.type "code"),none,(.fields #[(.str (sx "settle_abnormal") 778),(.str (sx "settle_abnormal") 779),(.str (sx "/claim/cut.py") 780),(.int 313 0),(.int 1 0),(.int 0 0),(.int 0 0),(.int 3 0),(.ref 403),(.bool true),(.int 181 0),(.ref 404),.none,(.ref 405),(.ref 406),(.ref 407),(.int 784 0),(.int 313 0),(.str (sx "/claim/cut.py") 785)]),#[]⟩)
 ,(409,⟨(.type "function"),none,(.func (C8 (Ba 64) (sx "settle_abnormal") (sx "settle_abnormal") .none .none .none (.str (sx "adacore.masters") 652) none (.ref 408) .none)),#[]⟩)
 ,(413,⟨(.type "code"),none,(.fields #[(.str (sx "settle_ends") 787),(.str (sx "settle_ends") 788),(.str (sx "/claim/cut.py") 789),(.int 321 0),(.int 1 0),(.int 0 0),(.int 0 0),(.int 3 0),(.ref 410),(.bool true),(.int 181 0),(.ref 411),.none,.none,.none,(.ref 412),(.int 790 0),(.int 321 0),(.str (sx "/claim/cut.py") 791)]),#[]⟩)
 ,(414,⟨(.type "function"),none,(.func (C8 (Ba 65) (sx "settle_ends") (sx "settle_ends") .none .none .none (.str (sx "adacore.masters") 652) none (.ref 413) .none)),#[]⟩)
 ,(418,⟨(.type "code"),none,(.fields #[(.str (sx "can_terminate") 793),(.str (sx "can_terminate") 794),(.str (sx "/claim/cut.py") 795),(.int 332 0),(.int 1 0),(.int 0 0),(.int 0 0),(.int 3 0),(.ref 415),(.bool true),(.int 181 0),(.ref 416),.none,.none,.none,(.ref 417),(.int 796 0),(.int 332 0),(.str (sx "/claim/cut.py") 797)]),#[]⟩)
 ,(419,⟨(.type "function"),none,(.func (C8 (Ba 66) (sx "can_terminate") (sx "can_terminate") .none .none .none (.str (sx "adacore.masters") 652) none (.ref 418) .none)),#[]⟩)
 ,(425,⟨(.type "code"),none,(.fields #[(.str (sx "is_quiet") 799),(.str (sx "is_quiet") 800),(.str (sx "/claim/cut.py") 801),(.int 334 0),(.int 1 0),(.int 0 0),(.int 0 0),(.int 3 0),(.ref 420),(.bool true),(.int 181 0),(.ref 421),.none,(.ref 422),(.ref 423),(.ref 424),(.int 805 0),(.int 334 0),(.str (sx "/claim/cut.py") 806)]),#[]⟩)
 ,(426,⟨(.type "function"),none,(.func (C8 (Ba 67) (sx "is_quiet") (sx "is_quiet") .none .none .none (.str (sx "adacore.masters") 652) none (.ref 425) .none)),#[]⟩)
 ,(430,⟨(.type "code"),none,(.fields #[(.str (sx "ended_masters") 808),(.str (sx "ended_masters") 809),(.str (sx "/claim/cut.py") 810),(.int 344 0),(.int 1 0),(.int 0 0),(.int 0 0),(.int 3 0),(.ref 427),(.bool true),(.int 181 0),(.ref 428),.none,.none,.none,(.ref 429),(.int 811 0),(.int 344 0),(.str (sx "/claim/cut.py") 812)]),#[]⟩)
 ,(431,⟨(.type "function"),none,(.func (C8 (Ba 68) (sx "ended_masters") (sx "ended_masters") .none .none .none (.str (sx "adacore.masters") 652) none (.ref 430) .none)),#[]⟩)
 ,(437,⟨(.type "code"),none,(.fields #[(.str (sx "terminate_below") 814),(.str (sx "terminate_below") 815),(.str (sx "/claim/cut.py") 816),(.int 349 0),(.int 1 0),(.int 0 0),(.int 0 0),(.int 3 0),(.ref 432),(.bool true),(.int 181 0),(.ref 433),.none,(.ref 434),(.ref 435),(.ref 436),(.int 820 0),(.int 349 0),(.str (sx "/claim/cut.py") 821)]),#[]⟩)
 ,(438,⟨(.type "function"),none,(.func (C8 (Ba 69) (sx "terminate_below") (sx "terminate_below") .none .none .none (.str (sx "adacore.masters") 652) none (.ref 437) .none)),#[]⟩)
 ,(442,⟨(.type "code"),none,(.fields #[(.str (sx "settle_terminates") 823),(.str (sx "settle_terminates") 824),(.str (sx "/claim/cut.py") 825),(.int 355 0),(.int 1 0),(.int 0 0),(.int 0 0),(.int 3 0),(.ref 439),(.bool true),(.int 181 0),(.ref 440),.none,.none,.none,(.ref 441),(.int 826 0),(.int 355 0),(.str (sx "/claim/cut.py") 827)]),#[]⟩)
 ,(443,⟨(.type "function"),none,(.func (C8 (Ba 70) (sx "settle_terminates") (sx "settle_terminates") .none .none .none (.str (sx "adacore.masters") 652) none (.ref 442) .none)),#[]⟩)
 ,(449,⟨(.type "code"),none,(.fields #[(.str (sx "settle_tasks") 829),(.str (sx "settle_tasks") 830),(.str (sx "/claim/cut.py") 831),(.int 365 0),(.int 1 0),(.int 0 0),(.int 0 0),(.int 3 0),(.ref 444),(.bool true),(.int 181 0),(.ref 445),.none,(.ref 446),(.ref 447),(.ref 448),(.int 833 0),(.int 365 0),(.str (sx "/claim/cut.py") 834)]),#[]⟩)
 ,(450,⟨(.type "function"),none,(.func (C8 (Ba 71) (sx "settle_tasks") (sx "settle_tasks") .none .none .none (.str (sx "adacore.masters") 652) none (.ref 449) .none)),#[]⟩)
 ,(458,⟨(.type "tuple"),none,(.seq #[(.int 32 850),(.int 1000000 853),(.int 50 854),(.int 10000 857),(.int 100000 860),(.int 50 861),(.int 1000000 864)] 0),#[]⟩)
 ,(464,⟨(.type "code"),none,(.fields #[(.str (sx "__init__") 865),(.str (sx "Limits.__init__") 866),(.str (sx "/claim/cut.py") 867),(.int 371 0),(.int 8 0),(.int 0 0),(.int 0 0),(.int 3 0),(.ref 459),(.bool true),(.int 181 0),(.ref 460),.none,(.ref 461),(.ref 462),(.ref 463),(.int 876 0),(.int 371 0),(.str (sx "/claim/cut.py") 877)]),#[]⟩)
 ,(465,⟨(.type "function"),none,(.func (C8 (mAt 73 0) (sx "__init__") (sx "Limits.__init__") (.ref 458) .none .none (.str (sx "adacore.limits") 836) none (.ref 464) .none)),#[]⟩)
 ,(467,⟨(.type "dict"),none,(.dict #[ke P "__module__" 845 (.str (sx "adacore.limits") 836),ke P "__firstlineno__" 849 (.int 369 848),ke P "__init__" 878 (.ref 465),ke P "__static_attributes__" 886 (.ref 466),ke P "__dict__" 888 (.ref 469),ke P "__weakref__" 890 (.ref 470),ke P "__doc__" 891 .none] 4),#[]⟩)
 ,(468,⟨(.type "type"),none,(.cls { name:=(sx "Limits"),bases:=[(.type "object")],mro:=[(.ref 468),(.type "object")],ns:=467,qualname:=(sx "Limits"),hasDict:=true,slotNames:=[],subclasses:=[],abstract:=false,collection:=none,hasDel:=false }),#[none,none,(some (.str (sx "Limits") 838)),(some (.str (sx "Limits") 846)),(some (.builtin "object.__new__")),(some (.bool true))]⟩)
 ,(485,⟨(.type "code"),none,(.fields #[(.str (sx "__init__") 908),(.str (sx "Tasking.__init__") 909),(.str (sx "/claim/cut.py") 910),(.int 382 0),(.int 3 0),(.int 0 0),(.int 0 0),(.int 3 0),(.ref 480),(.bool true),(.int 181 0),(.ref 481),.none,(.ref 482),(.ref 483),(.ref 484),(.int 914 0),(.int 382 0),(.str (sx "/claim/cut.py") 915)]),#[]⟩)
 ,(486,⟨(.type "function"),none,(.func (C8 (mAt 75 0) (sx "__init__") (sx "Tasking.__init__") .none .none .none (.str (sx "adacore.scheduler") 894) none (.ref 485) .none)),#[]⟩)
 ,(492,⟨(.type "code"),none,(.fields #[(.str (sx "next_number") 917),(.str (sx "Tasking.next_number") 918),(.str (sx "/claim/cut.py") 919),(.int 393 0),(.int 1 0),(.int 0 0),(.int 0 0),(.int 3 0),(.ref 487),(.bool true),(.int 181 0),(.ref 488),.none,(.ref 489),(.ref 490),(.ref 491),(.int 921 0),(.int 393 0),(.str (sx "/claim/cut.py") 922)]),#[]⟩)
 ,(493,⟨(.type "function"),none,(.func (C8 (mAt 75 1) (sx "next_number") (sx "Tasking.next_number") .none .none .none (.str (sx "adacore.scheduler") 894) none (.ref 492) .none)),#[]⟩)
 ,(495,⟨(.type "dict"),none,(.dict #[ke P "__module__" 903 (.str (sx "adacore.scheduler") 894),ke P "__firstlineno__" 907 (.int 380 906),ke P "__init__" 916 (.ref 486),ke P "next_number" 923 (.ref 493),ke P "__static_attributes__" 933 (.ref 494),ke P "__dict__" 935 (.ref 497),ke P "__weakref__" 937 (.ref 498),ke P "__doc__" 938 .none] 4),#[]⟩)
 ,(496,⟨(.type "type"),none,(.cls { name:=(sx "Tasking"),bases:=[(.type "object")],mro:=[(.ref 496),(.type "object")],ns:=495,qualname:=(sx "Tasking"),hasDict:=true,slotNames:=[],subclasses:=[],abstract:=false,collection:=none,hasDel:=false }),#[none,none,(some (.str (sx "Tasking") 896)),(some (.str (sx "Tasking") 904)),(some (.builtin "object.__new__")),(some (.bool true))]⟩)
 ,(504,⟨(.type "code"),none,(.fields #[(.str (sx "ready_tasks") 941),(.str (sx "ready_tasks") 942),(.str (sx "/claim/cut.py") 943),(.int 396 0),(.int 1 0),(.int 0 0),(.int 0 0),(.int 3 0),(.ref 501),(.bool true),(.int 181 0),(.ref 502),.none,.none,.none,(.ref 503),(.int 944 0),(.int 396 0),(.str (sx "/claim/cut.py") 945)]),#[]⟩)
 ,(505,⟨(.type "function"),none,(.func (C8 (Ba 76) (sx "ready_tasks") (sx "ready_tasks") .none .none .none (.str (sx "adacore.scheduler") 894) none (.ref 504) .none)),#[]⟩)
 ,(509,⟨(.type "code"),none,(.fields #[(.str (sx "waiting_tasks") 947),(.str (sx "waiting_tasks") 948),(.str (sx "/claim/cut.py") 949),(.int 398 0),(.int 1 0),(.int 0 0),(.int 0 0),(.int 3 0),(.ref 506),(.bool true),(.int 181 0),(.ref 507),.none,.none,.none,(.ref 508),(.int 950 0),(.int 398 0),(.str (sx "/claim/cut.py") 951)]),#[]⟩)
 ,(510,⟨(.type "function"),none,(.func (C8 (Ba 77) (sx "waiting_tasks") (sx "waiting_tasks") .none .none .none (.str (sx "adacore.scheduler") 894) none (.ref 509) .none)),#[]⟩)
 ,(514,⟨(.type "code"),none,(.fields #[(.str (sx "pass_time") 953),(.str (sx "pass_time") 954),(.str (sx "/claim/cut.py") 955),(.int 400 0),(.int 1 0),(.int 0 0),(.int 0 0),(.int 3 0),(.ref 511),(.bool true),(.int 181 0),(.ref 512),.none,.none,.none,(.ref 513),(.int 956 0),(.int 400 0),(.str (sx "/claim/cut.py") 957)]),#[]⟩)
 ,(515,⟨(.type "function"),none,(.func (C8 (Ba 78) (sx "pass_time") (sx "pass_time") .none .none .none (.str (sx "adacore.scheduler") 894) none (.ref 514) .none)),#[]⟩)
 ,(519,⟨(.type "code"),none,(.fields #[(.str (sx "end_late") 959),(.str (sx "end_late") 960),(.str (sx "/claim/cut.py") 961),(.int 409 0),(.int 1 0),(.int 0 0),(.int 0 0),(.int 3 0),(.ref 516),(.bool true),(.int 181 0),(.ref 517),.none,.none,.none,(.ref 518),(.int 962 0),(.int 409 0),(.str (sx "/claim/cut.py") 963)]),#[]⟩)
 ,(520,⟨(.type "function"),none,(.func (C8 (Ba 79) (sx "end_late") (sx "end_late") .none .none .none (.str (sx "adacore.scheduler") 894) none (.ref 519) .none)),#[]⟩)
 ,(526,⟨(.type "code"),none,(.fields #[(.str (sx "serve_lost") 965),(.str (sx "serve_lost") 966),(.str (sx "/claim/cut.py") 967),(.int 415 0),(.int 1 0),(.int 0 0),(.int 0 0),(.int 3 0),(.ref 521),(.bool true),(.int 181 0),(.ref 522),.none,(.ref 523),(.ref 524),(.ref 525),(.int 971 0),(.int 415 0),(.str (sx "/claim/cut.py") 972)]),#[]⟩)
 ,(527,⟨(.type "function"),none,(.func (C8 (Ba 80) (sx "serve_lost") (sx "serve_lost") .none .none .none (.str (sx "adacore.scheduler") 894) none (.ref 526) .none)),#[]⟩)
 ,(533,⟨(.type "code"),none,(.fields #[(.str (sx "choose_among") 974),(.str (sx "choose_among") 975),(.str (sx "/claim/cut.py") 976),(.int 423 0),(.int 2 0),(.int 0 0),(.int 0 0),(.int 3 0),(.ref 528),(.bool true),(.int 181 0),(.ref 529),.none,(.ref 530),(.ref 531),(.ref 532),(.int 981 0),(.int 423 0),(.str (sx "/claim/cut.py") 982)]),#[]⟩)
 ,(534,⟨(.type "function"),none,(.func (C8 (Ba 81) (sx "choose_among") (sx "choose_among") .none .none .none (.str (sx "adacore.scheduler") 894) none (.ref 533) .none)),#[]⟩)
 ,(540,⟨(.type "code"),none,(.fields #[(.str (sx "pick_task") 984),(.str (sx "pick_task") 985),(.str (sx "/claim/cut.py") 986),(.int 429 0),(.int 1 0),(.int 0 0),(.int 0 0),(.int 3 0),(.ref 535),(.bool true),(.int 181 0),(.ref 536),.none,(.ref 537),(.ref 538),(.ref 539),(.int 989 0),(.int 429 0),(.str (sx "/claim/cut.py") 990)]),#[]⟩)
 ,(541,⟨(.type "function"),none,(.func (C8 (Ba 82) (sx "pick_task") (sx "pick_task") .none .none .none (.str (sx "adacore.scheduler") 894) none (.ref 540) .none)),#[]⟩)
 ,(542,⟨(.type "tuple"),none,(.seq #[(.str (sx "feed") 994),.none] 0),#[]⟩)
 ,(543,⟨(.type "tuple"),none,(.seq #[(.int 0 996),(.int 6 997),(.int 1 998),(.int 1 999),(.int 1 1000)] 0),#[]⟩)
 ,(549,⟨(.type "code"),none,(.fields #[(.str (sx "_law_told") 1002),(.str (sx "_law_told") 1003),(.str (sx "/claim/cut.py") 1004),(.int 443 0),(.int 3 0),(.int 0 0),(.int 0 0),(.int 3 0),(.ref 544),(.bool true),(.int 181 0),(.ref 545),.none,(.ref 546),(.ref 547),(.ref 548),(.int 1008 0),(.int 443 0),(.str (sx "/claim/cut.py") 1009)]),#[]⟩)
 ,(550,⟨(.type "function"),none,(.func (C8 (Ba 86) (sx "_law_told") (sx "_law_told") .none .none .none (.str (sx "law_sz0010_01") 992) none (.ref 549) .none)),#[]⟩)
 ,(554,⟨(.type "code"),none,(.fields #[(.str (sx "_law_truth") 1011),(.str (sx "_law_truth") 1012),(.str (sx "/claim/cut.py") 1013),(.int 445 0),(.int 2 0),(.int 0 0),(.int 0 0),(.int 3 0),(.ref 551),(.bool true),(.int 181 0),(.ref 552),.none,.none,.none,(.ref 553),(.int 1014 0),(.int 445 0),(.str (sx "/claim/cut.py") 1015)]),#[]⟩)
 ,(555,⟨(.type "function"),none,(.func (C8 (Ba 87) (sx "_law_truth") (sx "_law_truth") .none .none .none (.str (sx "law_sz0010_01") 992) none (.ref 554) .none)),#[]⟩)
 ,(559,⟨(.type "code"),none,(.fields #[(.str (sx "_law_goes_on") 1017),(.str (sx "_law_goes_on") 1018),(.str (sx "/claim/cut.py") 1019),(.int 452 0),(.int 1 0),(.int 0 0),(.int 0 0),(.int 3 0),(.ref 556),(.bool true),(.int 181 0),(.ref 557),.none,.none,.none,(.ref 558),(.int 1020 0),(.int 452 0),(.str (sx "/claim/cut.py") 1021)]),#[]⟩)
 ,(560,⟨(.type "function"),none,(.func (C8 (Ba 88) (sx "_law_goes_on") (sx "_law_goes_on") .none .none .none (.str (sx "law_sz0010_01") 992) none (.ref 559) .none)),#[]⟩)
 ,(566,⟨(.type "code"),none,(.fields #[(.str (sx "_law_is_row") 1023),(.str (sx "_law_is_row") 1024),(.str (sx "/claim/cut.py") 1025),(.int 454 0),(.int 1 0),(.int 0 0),(.int 0 0),(.int 3 0),(.ref 561),(.bool true),(.int 181 0),(.ref 562),.none,(.ref 563),(.ref 564),(.ref 565),(.int 1030 0),(.int 454 0),(.str (sx "/claim/cut.py") 1031)]),#[]⟩)
 ,(567,⟨(.type "function"),none,(.func (C8 (Ba 89) (sx "_law_is_row") (sx "_law_is_row") .none .none .none (.str (sx "law_sz0010_01") 992) none (.ref 566) .none)),#[]⟩)
 ,(573,⟨(.type "code"),none,(.fields #[(.str (sx "_law_next") 1033),(.str (sx "_law_next") 1034),(.str (sx "/claim/cut.py") 1035),(.int 464 0),(.int 3 0),(.int 0 0),(.int 0 0),(.int 3 0),(.ref 568),(.bool true),(.int 181 0),(.ref 569),.none,(.ref 570),(.ref 571),(.ref 572),(.int 1040 0),(.int 464 0),(.str (sx "/claim/cut.py") 1041)]),#[]⟩)
 ,(574,⟨(.type "function"),none,(.func (C8 (Ba 90) (sx "_law_next") (sx "_law_next") .none .none .none (.str (sx "law_sz0010_01") 992) none (.ref 573) .none)),#[]⟩)
 ,(580,⟨(.type "code"),none,(.fields #[(.str (sx "_law_hands_on") 1043),(.str (sx "_law_hands_on") 1044),(.str (sx "/claim/cut.py") 1045),(.int 473 0),(.int 3 0),(.int 0 0),(.int 0 0),(.int 3 0),(.ref 575),(.bool true),(.int 181 0),(.ref 576),.none,(.ref 577),(.ref 578),(.ref 579),(.int 1049 0),(.int 473 0),(.str (sx "/claim/cut.py") 1050)]),#[]⟩)
 ,(581,⟨(.type "function"),none,(.func (C8 (Ba 91) (sx "_law_hands_on") (sx "_law_hands_on") .none .none .none (.str (sx "law_sz0010_01") 992) none (.ref 580) .none)),#[]⟩)
 ,(587,⟨(.type "code"),none,(.fields #[(.str (sx "_law_source_goes") 1052),(.str (sx "_law_source_goes") 1053),(.str (sx "/claim/cut.py") 1054),(.int 478 0),(.int 3 0),(.int 0 0),(.int 0 0),(.int 3 0),(.ref 582),(.bool true),(.int 181 0),(.ref 583),.none,(.ref 584),(.ref 585),(.ref 586),(.int 1058 0),(.int 478 0),(.str (sx "/claim/cut.py") 1059)]),#[]⟩)
 ,(588,⟨(.type "function"),none,(.func (C8 (Ba 92) (sx "_law_source_goes") (sx "_law_source_goes") .none .none .none (.str (sx "law_sz0010_01") 992) none (.ref 587) .none)),#[]⟩)
 ,(594,⟨(.type "code"),none,(.fields #[(.str (sx "_law_stage_goes") 1061),(.str (sx "_law_stage_goes") 1062),(.str (sx "/claim/cut.py") 1063),(.int 488 0),(.int 3 0),(.int 0 0),(.int 0 0),(.int 3 0),(.ref 589),(.bool true),(.int 181 0),(.ref 590),.none,(.ref 591),(.ref 592),(.ref 593),(.int 1069 0),(.int 488 0),(.str (sx "/claim/cut.py") 1070)]),#[]⟩)
 ,(595,⟨(.type "function"),none,(.func (C8 (Ba 93) (sx "_law_stage_goes") (sx "_law_stage_goes") .none .none .none (.str (sx "law_sz0010_01") 992) none (.ref 594) .none)),#[]⟩)
 ,(596,⟨(.type "tuple"),none,(.seq #[] 0),#[]⟩)
 ,(597,⟨.none,none,(.fields #[]),#[]⟩)
 ,(599,⟨(.type "code"),none,(.fields #[(.str (sx "law") 1072),(.str (sx "law") 1073),(.str (sx "/claim/cut.py") 1074),(.int 511 0),(.int 1 0),(.int 0 0),(.int 0 0),(.int 3 0),(.ref 596),(.bool true),(.int 181 0),(.ref 597),.none,.none,.none,(.ref 598),(.int 1075 0),(.int 511 0),(.str (sx "/claim/cut.py") 1076)]),#[]⟩)
 ,(600,⟨(.type "function"),none,(.func (C8 (Ba 94) (sx "law") (sx "law") .none .none .none (.str (sx "law_sz0010_01") 992) none (.ref 599) .none)),#[]⟩)
]
noncomputable def keys:List Addr:=[3,27,28,30,31,41,42,46,47,53,54,58,59,72,73,75,76,92,93,95,96,111,112,114,115,130,131,133,134,144,145,151,152,158,159,165,166,172,173,186,187,189,190,200,201,207,208,214,215,221,222,228,229,235,236,242,243,249,250,256,257,263,264,270,271,277,278,284,285,291,292,298,299,305,306,319,320,322,323,333,334,340,341,347,348,354,355,359,360,366,367,373,374,380,381,387,388,394,395,401,402,408,409,413,414,418,419,425,426,430,431,437,438,442,443,449,450,458,464,465,467,468,485,486,492,493,495,496,504,505,509,510,514,515,519,520,526,527,533,534,540,541,542,543,549,550,554,555,559,560,566,567,573,574,580,581,587,588,594,595,596,597,599,600]
noncomputable def qv:Program:={ pw with main:={ pw.main with body:=pw.main.body.drop 94 } }
noncomputable def loose:List Str:=pw.boundNames.filter fun n=>n != Str.ofString "law"
noncomputable abbrev Ao0:List Str:=importedModules pw.main.body
noncomputable def e0:Obj:={ cls:=.type "tuple",data:=.seq #[] }
noncomputable def e1:Obj:={ cls:=.none,data:=.fields #[] }
noncomputable def e2:Obj:={ cls:=.type "code",data:=.fields #[.str (sx "<module>") 182,.str (sx "<module>") 183,.str (sx "/claim/cut.py") 184,.int 1 0,.int 0 0,.int 0 0,.int 0 0,.int 0 0,.ref 11,.bool false,.int 181 0,.ref 12,.none,.none,.none,.none,.int 185 0,.int 1 0,.str (sx "/claim/cut.py") 186] }
noncomputable def e3:Obj:={ cls:=.type "frame",slots:=#[some (.ref 13),some (.ref 3),some (.ref 3),none,some (.str (sx "__main__") 164),none,some (.ref 0)] }
noncomputable def hp (P:Params):Heap:={ objs:=#[boot_o_0 P,boot_o_1 P,boot_o_2 P,boot_o_3 P,boot_o_4 P,boot_o_5 P,boot_o_6 P,boot_o_7 P,boot_o_8 P,boot_o_9 P,boot_o_10 P,e0,e1,e2,e3] }
noncomputable def tp (P:Params):BT :=
 .node (boot_o_0 P)
  (.node (boot_o_1 P)
   (.node (boot_o_3 P) (.node (boot_o_7 P) .nil .nil) (.node e0 .nil .nil))
   (.node (boot_o_5 P) (.node (boot_o_9 P) .nil .nil) (.node e2 .nil .nil)))
  (.node (boot_o_2 P)
   (.node (boot_o_4 P) (.node (boot_o_8 P) .nil .nil) (.node e1 .nil .nil))
   (.node (boot_o_6 P) (.node (boot_o_10 P) .nil .nil) (.node e3 .nil .nil)))
noncomputable def Ak6:Env:={ scope:=pw.main.scope,locals:=mainNs,globals:=mainNs,cells:=[],code:=.ref 13,frame:=some 14 }
noncomputable abbrev Ahr:List Stmt:=behindTheImports pw
noncomputable abbrev Acl:Pos:=⟨0,0,0,0⟩
noncomputable abbrev Ao2:Pos:=⟨511,0,546,109⟩
noncomputable abbrev T0:Code:=.body Ahr Ak6
noncomputable abbrev S0 (w:World) (os:OsState):Shared:=⟨boot_heap w.params,Array.mk [],boot_drawn,boot_toks,os⟩
noncomputable abbrev Sp (w:World) (os:OsState):Shared:=⟨hp w.params,#[],{},187,os⟩
noncomputable abbrev St0 (w:World) (os:OsState):SharedT:=⟨tp w.params,15,{},#[],{},187,os⟩
noncomputable abbrev Ahj:Option Value:=some (.ref 6)
theorem Aot (w:World) (os:OsState):topGo treeTable pw w 11 Ahj 12 (S0 w os) (topStub pw)=some (Sp w os,⟨denote treeTable T0,T0,Acl,[topFrame Acl]⟩):=by kernel_rfl
theorem Ank (w:World) (os:OsState):Sp w os=(St0 w os).abs:=by kernel_rfl
theorem Alb (w:World) (os:OsState):segRun treeTable pw w 11 Ahj 1 1 (Sp w os) (blockOf Ahr Ak6 T0 Acl [topFrame Acl])=some (.next,Sp w os,T0,Acl):=by kernel_rfl
theorem Aos (w:World) (s:Shared):topRun treeTable pw w 11 Ahj 2 s (restOf [] Ak6 T0 Ao2 [topFrame Acl])=some s:=by kernel_rfl
noncomputable def Ajy (w:World) (s:Shared):=((staticsOk Ao0 (boot_heap w.params) s.heap && namesBound pw s.heap && gensDone s && laidKept (boot_heap w.params) s.heap),openSeen qv loose Ao0 (fun J=>true) true s)
theorem Ags:keys.all (fun a=>Nat.blt a 601)=true:=by decide
theorem Any {T:BT} {n t:Nat} {life:Life} {gens:Array GenState} {drawn:Drawn} {os:OsState} (w:World) (e:keys.map (fun a=>(T.get a).bind alive)=(K w.params).map (fun p=>some p.2)) (hn:n=601) (ht:t=1078) :
  PySem.W.X.obsZ keys (⟨T,n,life,gens,drawn,t,os⟩:SharedT).abs=PySem.W.X.valZ K 601 1078 w:=by
 subst hn ht
 have e1:keys.map (absHeap T 601 life).get?=keys.map (fun a=>(T.get a).bind alive):=by
  refine List.map_congr_left fun a ha=>?_
  have hb:=List.all_eq_true.mp Ags a ha
  have hb':a < 601:=Nat.le_of_ble_eq_true hb
  unfold Heap.get?
  rw [absHeap_at,if_pos hb']
  cases hg:T.get a with
  | none=>exact (by
    have:(none:Option Obj)∈keys.map (fun a=>(T.get a).bind alive):=List.mem_map.mpr ⟨a,ha,by rw [hg]; rfl⟩
    rw [e] at this
    obtain ⟨p,_,hp⟩:=List.mem_map.mp this
    cases hp)
  | some o =>
   show (match some o with | some ⟨_,_,.freed,_⟩=>none | o=>o)=alive o
   obtain ⟨c,d,dt,sl⟩:=o
   cases dt <;> rfl
 show (keys.map (absHeap T 601 life).get?,(absHeap T 601 life).objs.size,1078)=_
 rw [e1,e,absHeap_size]
 rfl
theorem Aou (w:World) (os:OsState):(segRunT treeTable pw w 11 Ahj 1 4221 (St0 w os) (piecesOf Ahr Ak6 T0 Acl [topFrame Acl])).map (fun r=>(r.1,r.2.2,Ajy w r.2.1.abs,keys.map (fun a=>(r.2.1.tree.get a).bind alive),r.2.1.n,r.2.1.toks)) =
  some (.next,(T0,Ao2),(true,openGood qv loose),(K w.params).map (fun p=>some p.2),601,1078):=by
 rw [PySem.W.Fast.te10110043849684766642,PySem.W.Fast.te14364793385576792824]
 kernel_rfl
theorem Anj:∀ w:World,(fencedOpening treeTable pw w 8540).map (fun s=>(s.heap,s.gens,s.drawn,s.toks))=some (boot_heap w.params,Array.mk [],boot_drawn,boot_toks) :=
 boot_open (by kernel_rfl) (by kernel_rfl) (fun J=>by kernel_rfl)
theorem Ano (w:World):((boot_heap w.params).isNs mainGlobals && (Array.mk []:Array GenState).size == 0,(boot_heap w.params).objs.size,(boot_heap w.params).nsMap mainGlobals "__annotations__")=(true,11,Ahj):=by kernel_rfl
theorem Aie {p q:Program} {loose:List Str} {Xt:Shared→Bool} {α:Type} {Yf:Shared→α} {Ya:World→α} {N:Nat} {g0:Bool} {H₀:Params→Heap} {gs₀:Array GenState} {d₀:Drawn} {k₀:Nat} {m₀:Nat} {ann:Option Value} {M:Nat}
  (open_:∀ w:World,(fencedOpening treeTable p w N).map (fun s=>(s.heap,s.gens,s.drawn,s.toks))=some (H₀ w.params,gs₀,d₀,k₀))
  (size:∀ w:World,((H₀ w.params).isNs mainGlobals && gs₀.size == 0,(H₀ w.params).objs.size,(H₀ w.params).nsMap mainGlobals "__annotations__")=(true,m₀,ann))
  (run:∀ (w:World) (os:OsState),∃ s₁,topRun treeTable p w m₀ ann M ⟨H₀ w.params,gs₀,d₀,k₀,os⟩ (topStub p)=some s₁ ∧
   (staticsOk (importedModules p.main.body) (H₀ w.params) s₁.heap && namesBound p s₁.heap && gensDone s₁ && laidKept (H₀ w.params) s₁.heap)=true ∧
   openSeen q loose (importedModules p.main.body) Xt g0 s₁=openGood q loose∧Yf s₁=Ya w) (le:Nat.ble M N=true):LeftO p q loose Xt Yf Ya N g0:=fun w=>by
 obtain ⟨⟨h,gs,d,k,os⟩,e,e'⟩:=Option.map_eq_some_iff.mp (open_ w)
 obtain ⟨rfl,rfl,rfl,rfl⟩:h=H₀ w.params∧gs=gs₀∧d=d₀∧k=k₀:=by simpa using e'
 obtain ⟨z1,z2,z3⟩:_∧_∧_:=by simpa only [Prod.mk.injEq] using size w
 obtain ⟨s₁,hr,l1,l2,l3⟩:=run w os
 have r:=topRun_mono (N - M) _ _ _ _ hr
 rw [show M + (N - M)=N by have:=Nat.le_of_ble_eq_true le; lia] at r
 have t:topFrom treeTable p w N ⟨H₀ w.params,gs,d,k,os⟩=some s₁:=by
  unfold topFrom
  dsimp only
  rw [z1,z2,z3,r]
  show (match staticsOk (importedModules p.main.body) (H₀ w.params) s₁.heap && namesBound p s₁.heap && gensDone s₁ && laidKept (H₀ w.params) s₁.heap with | true=>_ | false=>_)=_
  rw [l1]
 unfold openEnds
 rw [e]
 show (topFrom treeTable p w N _).map _=_
 rw [t]
 exact congrArg some (Prod.ext l2 l3)
theorem Alv {p:Program} {w:World} {n₀:Nat} {ann:Option Value} {env:Env} {q:Pos} {b:List Stmt} {pos pos':Pos} {a n₁ n₂ n₃:Nat} {s s':Shared} {S:SharedT} {t:Thread} {α:Type} {F:Flow×SharedT×Code×Pos→Flow×(Code×Pos)×α} {v:α}
  (hF:∀ r,F r=(r.1,r.2.2,(F r).2.2))
  (pre:topGo treeTable p w n₀ ann a s t=some (s',⟨denote treeTable (.body b env),.body b env,pos,[topFrame q]⟩))
  (block:segRun treeTable p w n₀ ann 1 n₁ s' (blockOf b env (.body b env) pos [topFrame q])=some (.next,s',.body b env,pos))
  (heap:s'=S.abs)
  (run:(segRunT treeTable p w n₀ ann 1 n₂ S (piecesOf b env (.body b env) pos [topFrame q])).map F=some (.next,(.body b env,pos'),v))
  (fin:∀ s,topRun treeTable p w n₀ ann n₃ s (restOf [] env (.body b env) pos' [topFrame q])=some s) :
  ∃ S':SharedT,topRun treeTable p w n₀ ann (a + (n₁ + (n₂ + n₃))) s t=some S'.abs∧(F (.next,S',.body b env,pos')).2.2=v:=by
 obtain ⟨⟨f,S',c',p'⟩,hr,hs⟩:=Option.map_eq_some_iff.mp run
 rw [hF] at hs
 simp only [Prod.mk.injEq] at hs
 obtain ⟨rfl,⟨rfl,rfl⟩,hv⟩:=hs
 have r1:=piece_app (segRun_of hr) (fin S'.abs)
 rw [List.append_nil,← heap] at r1
 exact ⟨S',go_top pre (piece_block block r1),hv⟩
noncomputable def Aly (w:World) (r:Flow×SharedT×Code×Pos) :=
 (r.1,r.2.2,Ajy w r.2.1.abs,keys.map (fun a=>(r.2.1.tree.get a).bind alive),r.2.1.n,r.2.1.toks)
theorem Anl:LeftO pw qv loose (fun J=>true) (PySem.W.X.obsZ keys) (PySem.W.X.valZ K 601 1078) 8540 :=
 Aie Anj Ano (M:=12 + (1 + (4221 + 2))) (fun w os=>by
  obtain ⟨S',h1,h2⟩:=Alv (F:=Aly w) (fun J=>rfl) (Aot w os) (Alb w os) (Ank w os) (Aou w os) (Aos w)
  obtain ⟨h3,h4⟩:=Prod.mk.inj h2
  obtain ⟨h5,h6⟩:=Prod.mk.inj h3
  obtain ⟨h7,h8⟩:=Prod.mk.inj h4
  obtain ⟨h9,h10⟩:=Prod.mk.inj h8
  exact ⟨S'.abs,h1,h5,h6,Any (T:=S'.tree) (n:=S'.n) (t:=S'.toks) (life:=S'.life) (gens:=S'.gens) (drawn:=S'.drawn) (os:=S'.os) w h7 h9 h10⟩) (by decide)
theorem Ann:rw0.wellSaid=true:=by
 rw [PySem.W.Fast.te9446332074065402090]
 kernel_rfl
theorem Apc:(chainsOk qv && opensWell pw && (frees rw0.row.toRowW && rw0.row.toRowW.within.isEmpty))=true:=by kernel_rfl
theorem Ani:pw.bare:=⟨rfl,rfl,rfl,rfl,rfl,by decide +kernel⟩
theorem Anm:rw0.row.toRowW.promised:=by w_witness2
theorem Wp (call:∀ d kwd,defOf qv rw0.row.name=some (d,kwd)→WalkX qv loose (fun J J=>True) (PySem.W.X.obsZ keys) (PySem.W.X.valZ K 601 1078) rw0.row.toRowW d kwd fun f vs=>PySem.call f vs):rw0.Holds:=by
 refine holds_law Ann fun said=>?_
 refine holds_openX (r:=rw0.row) (q:=qv) (loose:=loose) (Xt:=fun J=>true) (XP:=fun J J=>True) Anl (fun J J=>trivial) (fun J J J J J=>trivial) rfl rfl rfl (fun J J=>recFacts_nil rfl) rfl said Apc Ani Anm (call _ _ rfl)
section
open PySem PySem.W PyProof.Rows PySem.W.X
structure Found (w:World) (hB:Heap) (mg mb:Str→Option Value) (vs:List Value) (ns:List Int):Prop where
 kin:(K w.params).In hB
 size:hB.objs.size=602
 g:hB.Ns mainGlobals mg
 b:hB.Ns builtinsNs mb
 blt:∀ x:Str,x ≠ "__name__" → mb x=bootBuiltins x
 lim:hB.NoLimit
 lst:hB.IsList 601 vs.toArray
 items:IntsAre vs ns
 len:ns.length≤63
noncomputable abbrev Aon (hB:Heap) (os:OsState) (v:Value) (s':Shared):Prop:=v=.bool true∧OldK hB s'.heap∧s'.os=os∧s'.gens=#[]
theorem Aoo (P:Params) (x:Str) (v:Value) (h:Heap) (mg:Str→Option Value) (X:(K P).In h) (G:h.Ns mainGlobals mg) (e:nsIn (K P) mainGlobals x=some (some v)):mg x=some v:=mg_of X G e
theorem Ans (P:Params):nsIn (K P) mainGlobals (sx "law")=some (some (.ref 600)):=by kernel_rfl
end
noncomputable def Agq:Option Str→Value→Bool
 | none,.none=>true
 | some x,v=>Value.isStrOf x v
 | _,_=>false
theorem Gd {v:Value} (h:Agq none v=true):v=.none:=by cases v <;> first | rfl | cases h
theorem Fo {x:Str} {v:Value} (h:Agq (some x) v=true):∃ t,v=.str x t:=Value.isStrOf_shape (by simpa [Agq] using h)
theorem Qh {prog:Program} {w:World} {A:Around} {E:Value→Shared→Prop} {s:Shared} {Q:Int→Shared→Prop} (h:Q 0xFCA86420 { s with toks:=s.toks + 1 }):wpAny (model prog w) A (pyHash .none) Q E s:=by
 have hT:s.TypeIs .none "NoneType" := rfl
 unfold pyHash pyHashByItsType
 have hv:[Value.none].any Value.onHeap=false:=rfl
 refine wpAny_bind ?_
 rw [cRoomFor,if_neg (by rw [hv]; exact Bool.false_ne_true)]; refine wpAny_pure ?_
 refine wpAny_bind (wpAny_specialOf hT F.slot_NoneType_hash.lookup ?_)
 show wpAny _ _ (if (some (Value.builtin "NoneType.__hash__") == some Value.none)=true then _ else _) Q E s
 rw [if_neg (by rw [beq_builtin_none]; exact Bool.false_ne_true)]
 refine wpAny_bind (wpAny_specialOf hT F.slot_NoneType_hash.lookup ?_)
 show wpAny _ _ (callSpecialIfBoundUnlessNone? .none "__hash__" _ >>= _) Q E s
 refine wpAny_bind (wpAny_callSpecialIfBoundUnlessNone?_slot hT F.slot_NoneType_hash
  (wpAny_call_entry F.slot_NoneType_hash hT F.entry_NoneType_hash
   (show wpAny _ _ (do ret (← mkInt 0xFCA86420)) _ _ s from wpAny_ret_mkInt ?_) (F.args_NoneType_hash_1 _)))
 exact wpAny_pure h
noncomputable def Anp (w:World):Option Str→Int
 | none=>0xFCA86420
 | some x=>hashStr w x
noncomputable def Aj1 (prog:Program) (w:World):KeyKind prog w (Option Str) where
 is:=Agq
 hash:=Anp w
 inj:=fun v a b ha hb=>by
  cases a with
  | none =>
   obtain rfl:=Gd ha
   cases b with
   | none=>rfl
   | some y=>obtain ⟨t,e⟩:=Fo hb; cases e
  | some x =>
   obtain ⟨t,rfl⟩:=Fo ha
   cases b with
   | none=>have:=Gd hb; cases this
   | some y=>obtain ⟨t,e⟩:=Fo hb; cases e; rfl
 byValue:=fun k v h=>by
  cases k with
  | none=>obtain rfl:=Gd h; rfl
  | some x=>obtain ⟨t,rfl⟩:=Fo h; rfl
 pyHash:=fun {A E s k v Q} hv h=>by
  cases k with
  | none=>obtain rfl:=Gd hv; exact Qh h
  | some x=>obtain ⟨t,rfl⟩:=Fo hv; exact wpAny_pyHash_str h
 eqBool:=fun {A E s a b u v Q} hu hv h=>by
  cases a with
  | none =>
   obtain rfl:=Gd hu
   cases b with
   | none =>
    obtain rfl:=Gd hv
    unfold PySem.eqBool
    refine wpAny_holding ?_
    show wpAny _ _ (if (Value.none == Value.none)=true then _ else _) _ _ _
    rw [if_pos (show (Value.none == Value.none)=true from rfl)]
    exact wpAny_bind (wpAny_rule (wpAny_pure (by simpa using h)))
   | some y =>
    obtain ⟨t,rfl⟩:=Fo hv
    exact SeqAt.EqAt.none_str _ _ _ _ _ _ (by simpa using h)
  | some x =>
   obtain ⟨t,rfl⟩:=Fo hu
   cases b with
   | none =>
    obtain rfl:=Gd hv
    exact SeqAt.EqAt.str_none _ _ _ _ _ _ (by simpa using h)
   | some y =>
    obtain ⟨t,rfl⟩:=Fo hv
    exact wpAny_eqBool_str (by simpa using h)
 «strs»:=fun k x t v h=>by
  cases k with
  | none=>have:=Gd h; cases this
  | some y =>
   obtain ⟨u,hu⟩:=Fo h
   injection hu with hx
   subst hx
   cases v <;> rfl
noncomputable abbrev U6 (w:World):HeapKind pw w (List (Option Str)):=tupleKind (Aj1 pw w)
noncomputable def Acm:List (Option Str):=[some (sx "feed"),none]
noncomputable def Ajp (w:World):Int:=tupleKeyHash (Aj1 pw w) Acm
set_option genInjectivity true in
inductive Id where
 | tasking | clock | limits | lib | libDeps | tasksL
 | mill | stages | crew | told | source | left | steps | rows
 | chooser | scell | wcell
 | task (i:Nat) | queues (i:Nat) | serving (i:Nat) | masters (i:Nat)
 | master (i:Nat) | deps (i:Nat)
 | stage (i:Nat) | got (i:Nat) | found (i:Nat)
 | tmp (k:Nat)
 deriving DecidableEq
set_option genInjectivity true in
inductive AVal where
 | none
 | bool (b:Bool)
 | int (i:Int)
 | str (s:String)
 | id (i:Id)
 | base (a:Addr)
 | tup (xs:List AVal)
 | flist (xs:List AVal)
 | rng (a b:Int)
 | any
structure Pl where
 pl:Id→Option (Nat×Nat)
 X:Nat→Prop
noncomputable def Pl.Put (ρ:Pl) (a:Addr):Prop:=∃ i p,ρ.pl i=some p∧(a=p.1∨a=p.2)
noncomputable def Pl.Mut (ρ:Pl) (a:Addr):Prop:=ρ.Put a∨ρ.X a
theorem Pl.Mut.put {ρ:Pl} {a:Addr} (h:¬ρ.Mut a):¬ρ.Put a:=fun q=>h (.inl q)
noncomputable abbrev Ov (vs:List Value) (n:Nat):Obj:=⟨.type "tuple",none,.seq vs.toArray n,#[]⟩
noncomputable abbrev Ant (vs:List Value) (n:Nat):Obj:=⟨.type "list",none,.seq vs.toArray n,#[]⟩
mutual
noncomputable def Ce (ρ:Pl) (h:Heap):AVal→Value→Prop
 | .none,v=>v=.none
 | .bool b,v=>v=.bool b
 | .int i,v=>∃ t,v=.int i t
 | .str s,v=>∃ t,v=.str (sx s) t
 | .id i,v=>∃ p,ρ.pl i=some p∧v=.ref p.1
 | .base a,v=>v=.ref a
 | .tup xs,v=>∃ a vs,v=.ref a∧¬ρ.Mut a∧h.IsTuple a vs.toArray∧Bm ρ h xs vs
 | .flist xs,v=>∃ a vs,v=.ref a∧¬ρ.Mut a∧h.IsList a vs.toArray∧vs.length≤1000000∧Bm ρ h xs vs
 | .rng x y,v=>∃ a t u w,v=.ref a∧¬ρ.Mut a∧IsRange h a x y 1 t u w∧(-1000000000≤x∧x≤1000000000)∧-1000000000≤y∧y≤1000000000
 | .any,v=>∀ s,v≠.builtin s
noncomputable def Bm (ρ:Pl) (h:Heap):List AVal→List Value→Prop
 | [],vs=>vs=[]
 | x :: xs,vs=>∃ v r,vs=v :: r∧Ce ρ h x v∧Bm ρ h xs r
end
noncomputable def Old (ρ:Pl) (h h':Heap):Prop:=∀ b o,h.get? b=some o→¬ρ.Put b→h'.get? b=some o
structure Ext (ρ ρ':Pl) (h:Heap):Prop where
 pl:∀ i p,ρ.pl i=some p→ρ'.pl i=some p
 put:∀ a:Nat,ρ'.Put a→ρ.Put a∨h.get? a=none
 mt:∀ a:Nat,ρ'.Mut a→ρ.Mut a∨h.get? a=none
 x:∀ a:Nat,ρ.X a→ρ'.X a
theorem Ext.refl (ρ:Pl) (h:Heap):Ext ρ ρ h:=⟨fun J J e=>e,fun J e=>.inl e,fun J e=>.inl e,fun J e=>e⟩
theorem Ext.notMut {ρ ρ':Pl} {h:Heap} (e:Ext ρ ρ' h) {a:Addr} {o:Obj} (ha:h.get? a=some o) (hn:¬ρ.Mut a):¬ρ'.Mut a:=fun q=>(e.mt a q).elim hn fun z=>by rw [z] at ha; cases ha
theorem Ext.notPut {ρ ρ':Pl} {h:Heap} (e:Ext ρ ρ' h) {a:Addr} {o:Obj} (ha:h.get? a=some o) (hn:¬ρ.Put a):¬ρ'.Put a:=fun q=>(e.put a q).elim hn fun z=>by rw [z] at ha; cases ha
theorem Ext.trans {ρ ρ₁ ρ₂:Pl} {h h₁:Heap} (e:Ext ρ ρ₁ h) (e':Ext ρ₁ ρ₂ h₁) (k:∀ b o,h.get? b=some o→¬ρ.Put b→∃ o',h₁.get? b=some o'):Ext ρ ρ₂ h:=by
 have up:∀ a:Nat,h₁.get? a=none→ρ.Put a∨h.get? a=none:=fun a z=>by
  by_cases hp:ρ.Put a
  ·exact .inl hp
  ·cases q:h.get? a with
   | none=>exact .inr rfl
   | some o =>
    obtain ⟨o',ho'⟩:=k a o q hp
    rw [z] at ho'; cases ho'
 exact ⟨fun i p hp=>e'.pl i p (e.pl i p hp),fun a q=>(e'.put a q).elim (e.put a) (up a),fun a q=>(e'.mt a q).elim (e.mt a) fun z=>(up a z).imp .inl id,fun a q=>e'.x a (e.x a q)⟩
theorem Old.refl (ρ:Pl) (h:Heap):Old ρ h h:=fun J J e J=>e
theorem Old.live {ρ:Pl} {h h':Heap} (x:Old ρ h h'):∀ b o,h.get? b=some o→¬ρ.Put b→∃ o',h'.get? b=some o':=fun b o e n=>⟨o,x b o e n⟩
theorem Old.trans {ρ ρ₁:Pl} {h h₁ h₂:Heap} (x:Old ρ h h₁) (e:Ext ρ ρ₁ h) (y:Old ρ₁ h₁ h₂):Old ρ h h₂ :=
 fun b o hb hn=>y b o (x b o hb hn) (e.notPut hb hn)
noncomputable def Ul (o:Obj):Prop:=(∃ xs n,o.data=.seq xs n)∨(o.cls=.type "range" ∧ ∃ xs,o.data=.fields xs)
noncomputable def Fz (ρ:Pl) (h h':Heap):Prop:=∀ b o,h.get? b=some o→Ul o→¬ρ.Mut b→h'.get? b=some o
theorem Ext.notMutT {ρ ρ':Pl} {h:Heap} (e:Ext ρ ρ' h) {a:Addr} {vs:Array Value} (ha:h.IsTuple a vs) (hn:¬ρ.Mut a):¬ρ'.Mut a:=let ⟨_,ho,_⟩:=ha; e.notMut ho hn
theorem Ext.notMutL {ρ ρ':Pl} {h:Heap} (e:Ext ρ ρ' h) {a:Addr} {vs:Array Value} (ha:h.IsList a vs) (hn:¬ρ.Mut a):¬ρ'.Mut a:=let ⟨_,ho,_⟩:=ha; e.notMut ho hn
theorem Fz.tup {ρ:Pl} {h h':Heap} (k:Fz ρ h h') {a:Addr} {vs:Array Value} (ha:h.IsTuple a vs) (hn:¬ρ.Mut a):h'.IsTuple a vs:=by
 obtain ⟨o,ho,hc,n,hd⟩:=ha
 exact ⟨o,k _ _ ho (.inl ⟨_,_,hd⟩) hn,hc,n,hd⟩
theorem Fz.list {ρ:Pl} {h h':Heap} (k:Fz ρ h h') {a:Addr} {vs:Array Value} (ha:h.IsList a vs) (hn:¬ρ.Mut a):h'.IsList a vs:=by
 obtain ⟨o,ho,hc,n,hd⟩:=ha
 exact ⟨o,k _ _ ho (.inl ⟨_,_,hd⟩) hn,hc,n,hd⟩
theorem Old.fz {ρ:Pl} {h h':Heap} (k:Old ρ h h'):Fz ρ h h':=fun b o e J n=>k b o e (Pl.Mut.put n)
mutual
theorem Ce.monoF {ρ ρ':Pl} {h h':Heap} (e:Ext ρ ρ' h) (k:Fz ρ h h'):∀ {x:AVal} {v:Value},Ce ρ h x v→Ce ρ' h' x v
 | .none,_,r=>r
 | .bool _,_,r=>r
 | .int _,_,r=>r
 | .str _,_,r=>r
 | .id _,_,⟨p,hp,hv⟩=>⟨p,e.pl _ _ hp,hv⟩
 | .base _,_,r=>r
 | .tup _,_,⟨a,vs,hv,hm,ha,hr⟩=>⟨a,vs,hv,e.notMutT ha hm,k.tup ha hm,Bm.monoF e k hr⟩
 | .flist _,_,⟨a,vs,hv,hm,ha,hl,hr⟩=>⟨a,vs,hv,e.notMutL ha hm,k.list ha hm,hl,Bm.monoF e k hr⟩
 | .rng _ _,_,⟨a,t,u,w,hv,hm,ha,hb⟩=>⟨a,t,u,w,hv,e.notMut ha hm,k _ _ ha (.inr ⟨rfl,_,rfl⟩) hm,hb⟩
 | .any,_,r=>r
theorem Bm.monoF {ρ ρ':Pl} {h h':Heap} (e:Ext ρ ρ' h) (k:Fz ρ h h'):∀ {xs:List AVal} {vs:List Value},Bm ρ h xs vs→Bm ρ' h' xs vs
 | [],_,r=>r
 | _ :: _,_,⟨v,r,hv,h1,h2⟩=>⟨v,r,hv,Ce.monoF e k h1,Bm.monoF e k h2⟩
end
theorem Ce.mono {ρ ρ':Pl} {h h':Heap} (e:Ext ρ ρ' h) (k:Old ρ h h') {x:AVal} {v:Value} (r:Ce ρ h x v):Ce ρ' h' x v:=r.monoF e k.fz
theorem Bm.mono {ρ ρ':Pl} {h h':Heap} (e:Ext ρ ρ' h) (k:Old ρ h h') {x:List AVal} {v:List Value} (r:Bm ρ h x v):Bm ρ' h' x v:=r.monoF e k.fz
inductive AObj where
 | inst (C:Addr) (fs:List (String×AVal))
 | list (xs:List AVal)
 | sdict (es:List (String×AVal))
 | qdict (q:Option AVal)
 | cell (v:AVal)
 | clos
noncomputable abbrev Aa4:=Id→Option AObj
structure AS where
 R:Aa4
 n:Nat
noncomputable abbrev B1:=List (String×AVal)
noncomputable def upd (R:Aa4) (i:Id) (o:AObj):Aa4:=fun j=>if j=i then some o else R j
theorem E3 (R:Aa4) (i:Id) (o:AObj):upd R i o i=some o:=if_pos rfl
theorem Ga (R:Aa4) {i j:Id} (o:AObj) (h:j≠i):upd R i o j=R j:=if_neg h
noncomputable def K0 (P:Params):Frag:=(K P).filter fun e=>e.1 != 597
theorem Q8 {K:Frag} {a:Nat} {o:Obj} (e:(K.filter fun e=>e.1 != 597).lookup a=some o):K.lookup a=some o∧a≠597:=by
 induction K with
 | nil=>cases e
 | cons x r ih =>
  obtain ⟨b,y⟩:=x
  by_cases hb:b=597
  ·subst hb
   rw [List.filter_cons_of_neg (by simp)] at e
   obtain ⟨h1,h2⟩:=ih e
   refine ⟨?_,h2⟩
   rw [List.lookup_cons]
   have:(a == 597)=false:=by simpa using h2
   rw [this]; exact h1
  ·rw [List.filter_cons_of_pos (by simpa using hb)] at e
   rw [List.lookup_cons] at e ⊢
   cases hab:a == b with
   | true =>
    rw [hab] at e
    have:a=b:=by simpa using hab
    exact ⟨e,this ▸ hb⟩
   | false =>
    rw [hab] at e
    exact ih e
structure Cx where
 w:World
 hB:Heap
 mg:Str→Option Value
 mb:Str→Option Value
 vs:List Value
 ns:List Int
 kin:(K0 w.params).In hB
 size:hB.objs.size=602
 g:hB.Ns mainGlobals mg
 b:hB.Ns builtinsNs mb
 blt:∀ x:Str,x ≠ "__name__" → mb x=bootBuiltins x
 lim:hB.NoLimit
 lst:hB.IsList 601 vs.toArray
 items:IntsAre vs ns
 len:ns.length≤63
noncomputable abbrev Cx.M (c:Cx):Model:=model pw c.w
noncomputable def Il (ρ:Pl) (h:Heap) (mA:Str→Option Value) (fs:List (String×AVal)):Prop :=
 ∀ n av,fs.lookup n=some av→∃ v,mA (sx n)=some v∧Ce ρ h av v
noncomputable def Mm:Addr→Option Addr
 | 31=>some 30 | 134=>some 133 | 190=>some 189 | 323=>some 322 | 468=>some 467 | 496=>some 495
 | _=>none
noncomputable def chSt:Stmt:=(fB (Ba 94)).getD 4 Anv
structure ClosOk (fd:FuncData) (a b:Nat):Prop where
 params:fd.params=fA chSt
 body:fd.body=.stmts (fB chSt)
 scope:fd.scope=fS chSt
 globals:fd.globals=mainGlobals
 builtins:fd.builtins=builtinsNs
 clos:fd.closure=[(sx "wishes",b),(sx "steps",a)]
 dV:fd.defaults=.none
 kV:fd.kwdefaults=.none
inductive CellOb (ρ:Pl) (h:Heap) (p:Nat×Nat) (av:AVal):Prop
 | mk (a:p.2=p.1) (v:Value) (b:h.IsCell p.1 (some v)) (r:Ce ρ h av v):CellOb ρ h p av
inductive ClosOb (ρ:Pl) (h:Heap) (p:Nat×Nat):Prop
 | mk (ps pw:Nat×Nat) (fd:FuncData) (a:ρ.pl .scell=some ps) (b:ρ.pl .wcell=some pw) (e:h.get? p.1=some ⟨.type "function",none,.func fd,#[]⟩) (f:ClosOk fd ps.1 pw.1) (g:fd.code=.ref p.2) (i:h.CodeRec (.ref p.2) fd.qualname):ClosOb ρ h p
inductive InstOb (ρ:Pl) (h:Heap) (p:Nat×Nat) (C:Addr) (fs:List (String×AVal)):Prop
 | mk (a:p.1≠p.2) (a':(Mm C).isSome=true) (b:h.get? p.1=some (instObj C p.2)) (mA:Str→Option Value) (d:h.Ns1 p.2 mA) (f:Within mA (fs.map fun e=>sx e.1)) (g:fs.length≤200) (i:Il ρ h mA fs):InstOb ρ h p C fs
inductive ListOb (ρ:Pl) (h:Heap) (p:Nat×Nat) (xs:List AVal):Prop
 | mk (a:p.2=p.1) (vs:List Value) (x:h.PlainList p.1 vs.toArray) (l:vs.length≤1000000) (d:Bm ρ h xs vs):ListOb ρ h p xs
inductive SdictOb (w:World) (ρ:Pl) (h:Heap) (p:Nat×Nat) (es:List (String×AVal)):Prop
 | mk (a:p.2=p.1) (kvs:List (Str×Value)) (b:h.DictOf (strKind pw w) p.1 kvs) (d:kvs.map (·.1)=es.map (fun e=>sx e.1)) (f:Bm ρ h (es.map (·.2)) (kvs.map (·.2))):SdictOb w ρ h p es
inductive Q0Ob (h:Heap) (p:Nat×Nat):Prop
 | mk (a:p.2=p.1) (n:Nat) (b:h.get? p.1=some ⟨.type "dict",none,.dict #[] n,#[]⟩):Q0Ob h p
inductive Q1Ob (w:World) (ρ:Pl) (h:Heap) (p:Nat×Nat) (q:AVal):Prop
 | mk (a:p.2=p.1) (n:Nat) (v:Value) (b:h.get? p.1=some ⟨.type "dict",none,.dict #[⟨Ajp w,.ref 542,v⟩] n,#[]⟩) (d:Ce ρ h q v):Q1Ob w ρ h p q
noncomputable def Hz (w:World) (ρ:Pl) (h:Heap) (p:Nat×Nat):AObj→Prop
 | .cell av=>CellOb ρ h p av
 | .clos=>ClosOb ρ h p
 | .inst C fs=>InstOb ρ h p C fs
 | .list xs=>ListOb ρ h p xs
 | .sdict es=>SdictOb w ρ h p es
 | .qdict none=>Q0Ob h p
 | .qdict (some q)=>Q1Ob w ρ h p q
structure Sat (c:Cx) (ρ:Pl) (σ:AS) (h:Heap):Prop where
 base:∀ b o,c.hB.get? b=some o→h.get? b=some o
 lo:∀ i p,ρ.pl i=some p→(602≤p.1∧∃ o,h.get? p.1=some o)∧(602≤p.2∧∃ o,h.get? p.2=some o)
 inj:∀ i j p q,ρ.pl i=some p→ρ.pl j=some q→i≠j→p.1≠q.1∧p.1≠q.2∧p.2≠q.1∧p.2≠q.2
 objs:∀ i o,σ.R i=some o→∃ p,ρ.pl i=some p∧Hz c.w ρ h p o
 dom:∀ i p,ρ.pl i=some p→σ.R i≠none
 fresh:∀ j,σ.n≤j→σ.R (.tmp j)=none
 xlo:∀ a,ρ.X a→602≤a∧∃ o,h.get? a=some o
noncomputable abbrev C5 (h h':Heap):Prop:=∀ b o,h.get? b=some o→h'.get? b=some o
theorem C5.old {ρ:Pl} {h h':Heap} (k:C5 h h'):Old ρ h h':=fun b o e J=>k b o e
theorem C5.refl (h:Heap):C5 h h:=fun J J e=>e
theorem C5.trans {h h₁ h₂:Heap} (k:C5 h h₁) (k':C5 h₁ h₂):C5 h h₂:=fun b o e=>k' b o (k b o e)
theorem C5.push (h:Heap) (o:Obj):C5 h (h.push o):=fun J J e=>Heap.get?_push_of_some _ e
theorem Il.mono {ρ ρ':Pl} {h h':Heap} {mA:Str→Option Value} {fs:List (String×AVal)} (e:Ext ρ ρ' h) (k:Old ρ h h') (f:Il ρ h mA fs):Il ρ' h' mA fs :=
 fun n av hn=>let ⟨v,hv,hr⟩:=f n av hn; ⟨v,hv,hr.mono e k⟩
theorem DictOf.at_ {w:World} {h h':Heap} {a:Addr} {kvs:List (Str×Value)} (x:h.DictOf (strKind pw w) a kvs) (k:∀ o,h.get? a=some o→h'.get? a=some o):h'.DictOf (strKind pw w) a kvs:=by
 obtain ⟨o,ho,r⟩:=Heap.dictOf_iff.mp x
 exact Heap.dictOf_iff.mpr ⟨o,k o ho,r⟩
theorem Il.monoF {ρ ρ':Pl} {h h':Heap} {mA:Str→Option Value} {fs:List (String×AVal)} (e:Ext ρ ρ' h) (k:Fz ρ h h') (f:Il ρ h mA fs):Il ρ' h' mA fs :=
 fun n av hn=>let ⟨v,hv,hr⟩:=f n av hn; ⟨v,hv,hr.monoF e k⟩
theorem Hz.mono {w:World} {ρ ρ':Pl} {h h':Heap} {p:Nat×Nat} (e:Ext ρ ρ' h) (k:Fz ρ h h') (k1:∀ o,h.get? p.1=some o→h'.get? p.1=some o) (k2:∀ o,h.get? p.2=some o→h'.get? p.2=some o) :
  ∀ {o:AObj},Hz w ρ h p o→Hz w ρ' h' p o
 | .inst _ _,⟨a,a',b,mA,d,f,g,i⟩=>⟨a,a',k1 _ b,mA,d.at k2,f,g,i.monoF e k⟩
 | .list _,⟨a,vs,x,l,d⟩=>⟨a,vs,x.at k1,l,Bm.monoF e k d⟩
 | .sdict _,⟨a,kvs,b,d,f⟩=>⟨a,kvs,DictOf.at_ b k1,d,Bm.monoF e k f⟩
 | .qdict none,⟨a,n,b⟩=>⟨a,n,k1 _ b⟩
 | .qdict (some _),⟨a,n,v,b,d⟩=>⟨a,n,v,k1 _ b,Ce.monoF e k d⟩
 | .cell _,⟨a,v,⟨o,ho,r⟩,d⟩=>⟨a,v,⟨o,k1 _ ho,r⟩,Ce.monoF e k d⟩
 | .clos,⟨ps,pw,fd,e1,e2,b,d,f,g⟩=>⟨ps,pw,fd,e.pl _ _ e1,e.pl _ _ e2,k1 _ b,d,f,g.at k2⟩
theorem Sat.notMut {c:Cx} {ρ:Pl} {σ:AS} {h:Heap} (S:Sat c ρ σ h) {a:Nat} (ha:a < 602):¬ρ.Mut a:=by
 rintro (⟨i,p,hp,hm⟩ | hx)
 ·have:=S.lo i p hp
  rcases hm with rfl | rfl <;> lia
 ·have:=S.xlo a hx
  lia
theorem Sat.big {c:Cx} {ρ:Pl} {σ:AS} {h:Heap} (S:Sat c ρ σ h):602≤h.objs.size:=by
 obtain ⟨o,ho,_⟩:=c.lst
 have:@LT.lt Nat _ 601 h.objs.size:=Heap.lt_size (S.base _ _ ho)
 lia
theorem Sat.step {c:Cx} {ρ:Pl} {σ:AS} {h h':Heap} (S:Sat c ρ σ h) (k:Fz ρ h h') (kb:∀ b o,c.hB.get? b=some o→h'.get? b=some o)
  (km:∀ b o,h.get? b=some o→ρ.Put b→h'.get? b=some o) (kx:∀ a o,ρ.X a→h.get? a=some o→∃ o',h'.get? a=some o'):Sat c ρ σ h' where
 base:=kb
 lo i p e:=by
  obtain ⟨⟨a,o,ho⟩,b,o',ho'⟩:=S.lo i p e
  exact ⟨⟨a,o,km _ _ ho ⟨i,p,e,.inl rfl⟩⟩,b,o',km _ _ ho' ⟨i,p,e,.inr rfl⟩⟩
 inj:=S.inj
 objs i o e:=let ⟨p,hp,ho⟩:=S.objs i o e; ⟨p,hp,ho.mono (Ext.refl ρ h) k (fun J q=>km _ _ q ⟨i,p,hp,.inl rfl⟩) (fun J q=>km _ _ q ⟨i,p,hp,.inr rfl⟩)⟩
 dom:=S.dom
 fresh:=S.fresh
 xlo a e:=let ⟨h1,o,ho⟩:=S.xlo a e; ⟨h1,kx a o e ho⟩
theorem Sat.keep {c:Cx} {ρ:Pl} {σ:AS} {h h':Heap} (S:Sat c ρ σ h) (k:C5 h h'):Sat c ρ σ h' :=
 S.step k.old.fz (fun b o e=>k b o (S.base b o e)) (fun b o e J=>k b o e) fun a o J e=>⟨o,k a o e⟩
theorem Sat.notBase {c:Cx} {ρ:Pl} {σ:AS} {h:Heap} (_S:Sat c ρ σ h) {a:Nat} (ha:602≤a) {b:Nat} {o:Obj} (hb:c.hB.get? b=some o):b≠a:=by
 have h2:@LT.lt Nat _ b c.hB.objs.size:=Heap.lt_size hb
 rw [c.size] at h2
 lia
noncomputable def AS.set (σ:AS) (i:Id) (o:AObj):AS:=⟨upd σ.R i o,σ.n⟩
theorem Hz.live {w:World} {ρ:Pl} {h:Heap} {p:Nat×Nat}:∀ {o:AObj},Hz w ρ h p o→(∃ o,h.get? p.1=some o)∧∃ o,h.get? p.2=some o
 | .inst _ _,⟨_,_,b,_,⟨o,_,_,d,_⟩,_,_,_⟩=>⟨⟨_,b⟩,o,d⟩
 | .list _,⟨a,_,⟨_,ho⟩,_,_⟩=>by rw [a]; exact ⟨⟨_,ho⟩,_,ho⟩
 | .sdict _,⟨a,kvs,b,_,_⟩=>by
  obtain ⟨o,ho,_⟩:=Heap.dictOf_iff.mp b
  rw [a]; exact ⟨⟨o,ho⟩,o,ho⟩
 | .qdict none,⟨a,n,b⟩=>by rw [a]; exact ⟨⟨_,b⟩,_,b⟩
 | .qdict (some _),⟨a,n,v,b,d⟩=>by rw [a]; exact ⟨⟨_,b⟩,_,b⟩
 | .cell _,⟨a,v,⟨o,ho,r⟩,d⟩=>by rw [a]; exact ⟨⟨o,ho⟩,o,ho⟩
 | .clos,⟨ps,pw,fd,e1,e2,b,d,f,⟨c,o,vs,t,e,g,_⟩⟩=>by cases e; exact ⟨⟨_,b⟩,_,g⟩
theorem Sat.change {c:Cx} {ρ:Pl} {σ:AS} {h h':Heap} (S:Sat c ρ σ h) {i:Id} {p:Nat×Nat} {o:AObj} (hp:ρ.pl i=some p)
  (hk:∀ b x,h.get? b=some x→b≠p.1→b≠p.2→h'.get? b=some x) (ho:Hz c.w ρ h' p o):Sat c ρ (σ.set i o) h'∧Old ρ h h':=by
 have hold:Old ρ h h':=fun b x e hn=>hk b x e (fun q=>hn ⟨i,p,hp,.inl q⟩) (fun q=>hn ⟨i,p,hp,.inr q⟩)
 obtain ⟨⟨l1,_⟩,l2,_⟩:=S.lo i p hp
 refine ⟨⟨fun b x e=>hk b x (S.base b x e) (S.notBase l1 e) (S.notBase l2 e),fun j q e=>?_,S.inj,fun j x e=>?_,fun j q e=>?_,fun j e=>?_,fun a e=>?_⟩,hold⟩
 ·by_cases hj:j=i
  ·subst hj
   obtain rfl:p=q:=Option.some.inj (hp.symm.trans e)
   exact ⟨⟨l1,ho.live.1⟩,l2,ho.live.2⟩
  ·obtain ⟨⟨m1,o1,h1⟩,m2,o2,h2⟩:=S.lo j q e
   have d:=S.inj j i q p e hp hj
   exact ⟨⟨m1,o1,hk _ _ h1 d.1 d.2.1⟩,m2,o2,hk _ _ h2 d.2.2.1 d.2.2.2⟩
 ·by_cases hj:j=i
  ·subst hj
   rw [show (σ.set j o).R j=some o from E3 ..] at e; cases e
   exact ⟨p,hp,ho⟩
  ·rw [show (σ.set i o).R j=σ.R j from Ga _ _ hj] at e
   obtain ⟨q,hq,hx⟩:=S.objs j x e
   have d:=S.inj j i q p hq hp hj
   exact ⟨q,hq,hx.mono (Ext.refl ρ h) hold.fz (fun o eo=>hk _ _ eo d.1 d.2.1) (fun o eo=>hk _ _ eo d.2.2.1 d.2.2.2)⟩
 ·by_cases hj:j=i
  ·subst hj
   rw [show (σ.set j o).R j=some o from E3 ..]; exact Option.some_ne_none _
  ·rw [show (σ.set i o).R j=σ.R j from Ga _ _ hj]; exact S.dom j q e
 ·have hf:=S.fresh j e
  by_cases hj:Id.tmp j=i
  ·subst hj; exact absurd hf (S.dom _ _ hp)
  ·rw [show (σ.set i o).R (.tmp j)=σ.R (.tmp j) from Ga _ _ hj]; exact hf
 ·obtain ⟨h1,x,hx⟩:=S.xlo a e
  refine ⟨h1,?_⟩
  by_cases q1:a=p.1
  ·subst q1; exact ho.live.1
  ·by_cases q2:a=p.2
   ·subst q2; exact ho.live.2
   ·exact ⟨x,hk a x hx q1 q2⟩
theorem Sat.fresh_notMut {c:Cx} {ρ:Pl} {σ:AS} {h:Heap} (S:Sat c ρ σ h) {a:Nat} (ha:h.get? a=none):¬ρ.Mut a:=by
 rintro (⟨i,p,hp,hm⟩ | hx)
 ·obtain ⟨⟨_,o1,h1⟩,_,o2,h2⟩:=S.lo i p hp
  rcases hm with rfl | rfl
  ·rw [h1] at ha; cases ha
  ·rw [h2] at ha; cases ha
 ·obtain ⟨_,o,ho⟩:=S.xlo a hx
  rw [ho] at ha; cases ha
noncomputable def Fk (ρ:Pl) (i:Id) (p:Nat×Nat):Pl:=⟨fun j=>if j=i then some p else ρ.pl j,ρ.X⟩
theorem B8 (ρ:Pl) (i:Id) (p:Nat×Nat):(Fk ρ i p).pl i=some p:=if_pos rfl
theorem Cn (ρ:Pl) {i j:Id} (p:Nat×Nat) (h:j≠i):(Fk ρ i p).pl j=ρ.pl j:=if_neg h
noncomputable def nextN (σ:AS):Id→Nat
 | .tmp j=>max σ.n (j + 1)
 | _=>σ.n
noncomputable def AS.add (σ:AS) (i:Id) (o:AObj):AS:=⟨upd σ.R i o,nextN σ i⟩
theorem Sat.free {c:Cx} {ρ:Pl} {σ:AS} {h:Heap} (S:Sat c ρ σ h) {i:Id} (hi:σ.R i=none):ρ.pl i=none:=by
 cases e:ρ.pl i with
 | none=>rfl
 | some p=>exact absurd hi (S.dom i p e)
theorem Sat.new {c:Cx} {ρ:Pl} {σ:AS} {h h':Heap} (S:Sat c ρ σ h) {i:Id} {p:Nat×Nat} {o:AObj} (hi:σ.R i=none) (k:C5 h h')
  (h1:h.get? p.1=none∧602≤p.1) (h2:h.get? p.2=none∧602≤p.2) (ho:Hz c.w (Fk ρ i p) h' p o):Sat c (Fk ρ i p) (σ.add i o) h'∧Ext ρ (Fk ρ i p) h:=by
 have hi':=S.free hi
 have hne:∀ j q,ρ.pl j=some q→j≠i:=fun j q e z=>by rw [z,hi'] at e; cases e
 have hput:∀ a:Nat,(Fk ρ i p).Put a→ρ.Put a∨h.get? a=none:=by
  rintro a ⟨j,q,e,hm⟩
  by_cases hj:j=i
  ·subst hj; rw [B8] at e; cases e
   rcases hm with rfl | rfl
   ·exact .inr h1.1
   ·exact .inr h2.1
  ·rw [Cn _ _ hj] at e; exact .inl ⟨j,q,e,hm⟩
 have hE:Ext ρ (Fk ρ i p) h:=⟨fun j q e=>by rw [Cn _ _ (hne j q e)]; exact e,hput,fun a q=>q.elim (fun q=>(hput a q).imp .inl id) fun q=>.inl (.inr q),fun J q=>q⟩
 have hS:=S.keep k
 have apart:∀ r:Nat×Nat,(∃ o,h.get? r.1=some o)→(∃ o,h.get? r.2=some o)→p.1≠r.1∧p.1≠r.2∧p.2≠r.1∧p.2≠r.2:=by
  rintro r ⟨o1,e1⟩ ⟨o2,e2⟩
  refine ⟨?_,?_,?_,?_⟩
  ·intro z; rw [← z,h1.1] at e1; cases e1
  ·intro z; rw [← z,h1.1] at e2; cases e2
  ·intro z; rw [← z,h2.1] at e1; cases e1
  ·intro z; rw [← z,h2.1] at e2; cases e2
 refine ⟨⟨hS.base,fun j q e=>?_,fun a b q r ea eb hab=>?_,fun j x e=>?_,fun j q e=>?_,fun j e=>?_,hS.xlo⟩,hE⟩
 ·by_cases hj:j=i
  ·subst hj; rw [B8] at e; cases e
   exact ⟨⟨h1.2,ho.live.1⟩,h2.2,ho.live.2⟩
  ·rw [Cn _ _ hj] at e; exact hS.lo j q e
 ·by_cases ha:a=i
  ·subst ha
   have hb:b≠a:=fun z=>hab z.symm
   rw [B8] at ea; cases ea
   rw [Cn _ _ hb] at eb
   obtain ⟨⟨_,u⟩,_,v⟩:=S.lo b r eb
   exact apart r u v
  ·rw [Cn _ _ ha] at ea
   by_cases hb:b=i
   ·subst hb
    rw [B8] at eb; cases eb
    obtain ⟨⟨_,u⟩,_,v⟩:=S.lo a q ea
    obtain ⟨w1,w2,w3,w4⟩:=apart q u v
    exact ⟨w1.symm,w3.symm,w2.symm,w4.symm⟩
   ·rw [Cn _ _ hb] at eb
    exact S.inj a b q r ea eb hab
 ·by_cases hj:j=i
  ·subst hj
   rw [show (σ.add j o).R j=some o from E3 ..] at e; cases e
   exact ⟨p,B8 ..,ho⟩
  ·rw [show (σ.add i o).R j=σ.R j from Ga _ _ hj] at e
   obtain ⟨q,hq,hx⟩:=S.objs j x e
   exact ⟨q,by rw [Cn _ _ hj]; exact hq,hx.mono hE k.old.fz (k _) (k _)⟩
 ·by_cases hj:j=i
  ·subst hj
   rw [show (σ.add j o).R j=some o from E3 ..]; exact Option.some_ne_none _
  ·rw [show (σ.add i o).R j=σ.R j from Ga _ _ hj]
   rw [Cn _ _ hj] at e; exact S.dom j q e
 ·by_cases hj:Id.tmp j=i
  ·subst hj
   have:max σ.n (j + 1)≤j:=e
   lia
  ·rw [show (σ.add i o).R (.tmp j)=σ.R (.tmp j) from Ga _ _ hj]
   refine S.fresh j (Nat.le_trans ?_ e)
   show σ.n≤nextN σ i
   unfold nextN
   split <;> lia
section
structure Room (A:Around) (k:Nat):Prop where
 hh:A.handled=none
 dep:A.depth + 2 * k≤900
 un:A.units + 32 * k≤9000
theorem Room.deeper {A:Around} {k:Nat} (r:Room A (k + 1)) (env:Env):Room (A.deeper env) k :=
 ⟨r.hh,by have:=r.dep; show A.depth + 1 + 2 * k≤900; lia,by have:=r.un; show A.units + 3 + 32 * k≤9000; lia⟩
theorem Room.le {A:Around} {k k':Nat} (r:Room A k) (h:k'≤k):Room A k':=⟨r.hh,by have:=r.dep; lia,by have:=r.un; lia⟩
structure Fi where
 sc:Scope
 cs:List String:=[]
 fr:List String:=[]
 outer:List (String×Id):=[]
noncomputable def Own (fi:Fi) (env:Env) (a:Nat):Prop:=a=env.locals∨∃ x,x∈fi.cs∧env.cells.lookup (sx x)=some a
noncomputable def Rd (fi:Fi) (env:Env) (a:Nat):Prop:=∃ x,x∈fi.fr∧env.cells.lookup (sx x)=some a
noncomputable def Tk (ρ:Pl) (h:Heap) (fi:Fi) (env:Env) (m:B1):Prop :=
 ∃ mm,h.Ns env.locals mm∧∀ x av,m.lookup x=some av→∃ v,Ce ρ h av v ∧
  ((x ∉ fi.cs∧x ∉ fi.fr∧mm (sx x)=some v)∨((x∈fi.cs∨x∈fi.fr)∧∃ a,env.cells.lookup (sx x)=some a∧h.IsCell a (some v)))
structure EnvOk (fi:Fi) (env:Env):Prop where
 kind:env.scope.kind=.function
 names:env.scope.names=fi.sc.names
 glob:env.globals=mainGlobals
 blt:env.builtins=builtinsNs
 apart:∀ x y a,env.cells.lookup x=some a→env.cells.lookup y=some a→x=y
 off:∀ x a,env.cells.lookup x=some a→a≠env.locals
structure St (c:Cx) (ρ:Pl) (fi:Fi) (σ:AS) (env:Env) (m:B1) (h:Heap):Prop where
 sat:Sat c ρ σ h
 locs:Tk ρ h fi env m
 own:∀ a,Own fi env a→¬ρ.Mut a∧602≤a∧∃ o,h.get? a=some o
 rd:∀ a,Rd fi env a→¬ρ.Mut a∧¬Own fi env a∧∃ o,h.get? a=some o
 cell:∀ x,x∈fi.cs→∃ a v,env.cells.lookup (sx x)=some a∧h.IsCell a v
 outer:∀ x i,fi.outer.lookup x=some i→∃ p,ρ.pl i=some p∧env.cells.lookup (sx x)=some p.1
 env:EnvOk fi env
theorem Tk.mono {ρ ρ':Pl} {h h':Heap} {fi:Fi} {env:Env} {m:B1} (e:Ext ρ ρ' h) (k:Fz ρ h h') (ko:∀ a o,(Own fi env a∨Rd fi env a)→h.get? a=some o→h'.get? a=some o) (l:Tk ρ h fi env m):Tk ρ' h' fi env m:=by
 obtain ⟨mm,hn,hl⟩:=l
 refine ⟨mm,?_,fun x av hx=>?_⟩
 ·obtain ⟨o,es,ep,ho,r⟩:=hn
  exact ⟨o,es,ep,ko _ _ (.inl (.inl rfl)) ho,r⟩
 ·obtain ⟨v,hv,hm⟩:=hl x av hx
  refine ⟨v,hv.monoF e k,?_⟩
  rcases hm with hm | ⟨hx,a,ha,o,ho,hd⟩
  ·exact .inl hm
  ·refine .inr ⟨hx,a,ha,o,ko _ _ ?_ ho,hd⟩
   rcases hx with hx | hx
   ·exact .inl (.inr ⟨x,hx,ha⟩)
   ·exact .inr ⟨x,hx,ha⟩
theorem St.next {c:Cx} {ρ ρ':Pl} {fi:Fi} {σ σ':AS} {env:Env} {m:B1} {h h':Heap} (S:St c ρ fi σ env m h) (e:Ext ρ ρ' h) (k:Old ρ h h') (S':Sat c ρ' σ' h'):St c ρ' fi σ' env m h' where
 sat:=S'
 locs:=S.locs.mono e k.fz fun a o ha ho=>k a o ho (Pl.Mut.put (ha.elim (fun q=>(S.own a q).1) fun q=>(S.rd a q).1))
 own a ha:=let ⟨h1,h2,o,ho⟩:=S.own a ha; ⟨e.notMut ho h1,h2,o,k a o ho (Pl.Mut.put h1)⟩
 rd a ha:=let ⟨h1,h2,o,ho⟩:=S.rd a ha; ⟨e.notMut ho h1,h2,o,k a o ho (Pl.Mut.put h1)⟩
 cell x hx:=let ⟨a,v,ha,o,ho,hd⟩:=S.cell x hx; ⟨a,v,ha,o,k a o ho (Pl.Mut.put (S.own a (.inr ⟨x,hx,ha⟩)).1),hd⟩
 outer x i hx:=let ⟨p,hp,hq⟩:=S.outer x i hx; ⟨p,e.pl _ _ hp,hq⟩
 env:=S.env
inductive Ends (c:Cx) (ρ:Pl) (h:Heap) (av:AVal) (σ':AS) (v:Value) (h':Heap):Prop
 | mk (ρ':Pl) (e:Ext ρ ρ' h) (o:Old ρ h h') (S:Sat c ρ' σ' h') (r:Ce ρ' h' av v):Ends c ρ h av σ' v h'
noncomputable def Ev (c:Cx) (k:Nat) (fi:Fi) (env:Env) (σ:AS) (m:B1) (t:Sem Value) (av:AVal) (σ':AS):Prop :=
 ∀ (A:Around) (ρ:Pl) (h:Heap) (d:Drawn) (tk:Tok) (os:OsState) (Q:Value→Shared→Prop) (E:Value→Shared→Prop),Room A k→St c ρ fi σ env m h →
  (∀ v h' tk',Ends c ρ h av σ' v h'→Q v ⟨h',#[],d,tk',os⟩)→wpAny c.M A t Q E ⟨h,#[],d,tk,os⟩
noncomputable abbrev D:=B1→AS→Option (AVal×AS)
noncomputable abbrev B:=B1→AS→Option (Bool×AS)
noncomputable def Cf (k:Nat) (fi:Fi) (e:Expr) (D:D):Prop:=∀ c env σ m av σ',D m σ=some (av,σ')→Ev c k fi env σ m (eval e env) av σ'
noncomputable def Tl (k:Nat) (fi:Fi) (e:Expr) (B:B):Prop:=∀ c env σ m b σ',B m σ=some (b,σ') →
 ∀ (A:Around) (ρ:Pl) (h:Heap) (d:Drawn) (tk:Tok) (os:OsState) (Q:Bool→Shared→Prop) (E:Value→Shared→Prop),Room A k→St c ρ fi σ env m h →
  (∀ ρ' h' tk',Ext ρ ρ' h→Old ρ h h'→Sat c ρ' σ' h'→Q b ⟨h',#[],d,tk',os⟩)→wpAny c.M A (isTrue e env (eval e env)) Q E ⟨h,#[],d,tk,os⟩
theorem Ends.same {c:Cx} {ρ:Pl} {σ:AS} {h:Heap} {av:AVal} {v:Value} (S:Sat c ρ σ h) (r:Ce ρ h av v):Ends c ρ h av σ v h:=⟨ρ,Ext.refl _ _,Old.refl _ _,S,r⟩
theorem Ends.kept {c:Cx} {ρ:Pl} {σ:AS} {h h':Heap} {av:AVal} {v:Value} (S:Sat c ρ σ h) (q:C5 h h') (r:Ce ρ h' av v):Ends c ρ h av σ v h':=⟨ρ,Ext.refl _ _,q.old,S.keep q,r⟩
theorem Ends.after {c:Cx} {ρ ρ₁:Pl} {h h₁ h':Heap} {av:AVal} {σ':AS} {v:Value} (e:Ext ρ ρ₁ h) (o:Old ρ h h₁) (D:Ends c ρ₁ h₁ av σ' v h'):Ends c ρ h av σ' v h' :=
 let ⟨ρ',e',o',S',r⟩:=D; ⟨ρ',e.trans e' o.live,o.trans e o',S',r⟩
noncomputable def Adg:D:=fun J J=>none
theorem Ac5 {k:Nat} {fi:Fi} {e:Expr}:Cf k fi e Adg:=fun J J J J J J h=>by cases h
noncomputable def Ry (fi:Fi) (x:String):Option NameKind:=fi.sc.names.lookup (sx x)
noncomputable def Pp (fi:Fi) (x:String):Bool:=Ry fi x == some .local && !fi.cs.contains x && !fi.fr.contains x && !(sx x == ("__debug__" : Str))
noncomputable def Amn (fi:Fi) (x:String):Bool:=(Ry fi x == some .cell || Ry fi x == some .free) && (fi.cs.contains x || fi.fr.contains x) && !(sx x == ("__debug__" : Str)) && !(sx x == ("__classdict__" : Str))
noncomputable def Amo (fi:Fi) (x:String):Bool:=(Ry fi x == some .cell || Ry fi x == some .free) && !(sx x == ("__debug__" : Str)) && !(sx x == ("__classdict__" : Str))
noncomputable def Km (fi:Fi) (x:String):Bool:=Ry fi x == some .globalImplicit && !(sx x == ("__debug__" : Str))
theorem EnvOk.kindOf {fi:Fi} {env:Env} (e:EnvOk fi env) (x:String):env.kindOf (sx x)=Ry fi x:=by
 show env.scope.names.lookup (sx x)=fi.sc.names.lookup (sx x)
 rw [e.names]
noncomputable def Ad (x:String):D:=fun m σ=>(m.lookup x).map (·,σ)
theorem X2 {x:String} {m:B1} {σ σ':AS} {av:AVal} (h:Ad x m σ=some (av,σ')):m.lookup x=some av∧σ'=σ:=by
 unfold Ad at h
 cases e:m.lookup x with
 | none=>rw [e] at h; cases h
 | some w=>rw [e] at h; cases h; exact ⟨rfl,rfl⟩
section
variable {k:Nat} {fi:Fi} {x:String} {pos:Pos}
theorem Aa (hk:Pp fi x=true:=by kernel_rfl):Cf k fi (.Name (Str.ofString x) pos) (Ad x):=by
 intro c env σ m av σ' hD A ρ h d tk os Q E r S q
 obtain ⟨hm,rfl⟩:=X2 hD
 simp only [Pp,Bool.and_eq_true,Bool.not_eq_true',beq_iff_eq,List.contains_eq_mem,decide_eq_false_iff_not] at hk
 obtain ⟨⟨⟨h1,h2⟩,h3⟩,h4⟩:=hk
 obtain ⟨mm,hn,hl⟩:=S.locs
 obtain ⟨v,hv,hq⟩:=hl x av hm
 rcases hq with ⟨_,_,hq⟩ | ⟨h5 | h5,_⟩
 ·exact wpAny_Name (wpAny_loadName_local S.env.kind ((S.env.kindOf x).trans h1) hn hq (q _ _ _ (.same S.sat hv))) h4
 ·exact absurd h5 h2
 ·exact absurd h5 h3
theorem Cy (hk:Amn fi x=true):Cf k fi (.Name (Str.ofString x) pos) (Ad x):=by
 intro c env σ m av σ' hD A ρ h d tk os Q E r S q
 obtain ⟨hm,rfl⟩:=X2 hD
 simp only [Amn,Bool.and_eq_true,Bool.not_eq_true',beq_iff_eq,List.contains_eq_mem,Bool.or_eq_true,decide_eq_true_eq] at hk
 obtain ⟨⟨⟨h1,h2⟩,h3⟩,h4⟩:=hk
 obtain ⟨mm,hn,hl⟩:=S.locs
 obtain ⟨v,hv,hq⟩:=hl x av hm
 rcases hq with ⟨h5,h6,hq⟩ | ⟨_,a,ha,hq⟩
 ·exact (h2.elim h5 h6).elim
 ·rcases h1 with h1 | h1
  ·exact wpAny_Name (wpAny_loadName_cell S.env.kind ((S.env.kindOf x).trans h1) ha hq (q _ _ _ (.same S.sat hv))) h3
  ·exact wpAny_Name (wpAny_loadName_free S.env.kind ((S.env.kindOf x).trans h1) ha hq (q _ _ _ (.same S.sat hv)) h4) h3
noncomputable def Sm (i:Id):D:=fun _ σ=>match σ.R i with | some (.cell av)=>some (av,σ) | _=>none
theorem Mh {i:Id} (hk:Amo fi x=true) (hi:fi.outer.lookup x=some i):Cf k fi (.Name (Str.ofString x) pos) (Sm i):=by
 intro c env σ m av σ' hD A ρ h d tk os Q E r S q
 unfold Sm at hD
 (set_option tactic.hygienic true in split at hD)
 ·rename_i av' hR
  cases hD
  simp only [Amo,Bool.and_eq_true,Bool.not_eq_true',beq_iff_eq,Bool.or_eq_true] at hk
  obtain ⟨⟨h1,h3⟩,h4⟩:=hk
  obtain ⟨p,hp,ha⟩:=S.outer x i hi
  obtain ⟨p',hp',_,v,hq,hv⟩:=S.sat.objs i _ hR
  obtain rfl:p=p':=Option.some.inj (hp.symm.trans hp')
  rcases h1 with h1 | h1
  ·exact wpAny_Name (wpAny_loadName_cell S.env.kind ((S.env.kindOf x).trans h1) ha hq (q _ _ _ (.same S.sat hv))) h3
  ·exact wpAny_Name (wpAny_loadName_free S.env.kind ((S.env.kindOf x).trans h1) ha hq (q _ _ _ (.same S.sat hv)) h4) h3
 ·cases hD
noncomputable def Cm (x:String) (av:AVal):Prop:=∀ P:Params,∃ v,nsIn (K0 P) mainGlobals (sx x)=some (some v)∧∀ ρ h,Ce ρ h av v
theorem Cm.get {av:AVal} (g:Cm x av) (c:Cx):∃ v,c.mg (sx x)=some v∧∀ ρ h,Ce ρ h av v:=by
 obtain ⟨v,h1,h2⟩:=g c.w.params
 exact ⟨v,mg_of c.kin c.g h1,h2⟩
noncomputable def An (av:AVal):D:=fun _ σ=>some (av,σ)
theorem Bl {av:AVal} (hk:Km fi x=true) (hv:Cm x av):Cf k fi (.Name (Str.ofString x) pos) (An av):=by
 intro c env σ m av' σ' hD A ρ h d tk os Q E r S q
 cases hD
 simp only [Km,Bool.and_eq_true,Bool.not_eq_true',beq_iff_eq] at hk
 obtain ⟨v,h1,h2⟩:=hv.get c
 refine Calls.Name_function_global S.env.kind ((S.env.kindOf x).trans hk.1) (Calls.loadGlobal_global (mg:=c.mg) ?_ h1 (q _ _ _ (.same S.sat (h2 _ _)))) hk.2
 rw [S.env.glob]
 exact c.g.keeps S.sat.base
theorem A9 {i:Int} {kd:Nat}:Cf k fi (.Constant (.int i) kd pos) (An (.int i)):=by
 intro c env σ m av' σ' hD A ρ h d tk os Q E r S q
 cases hD
 exact wpAny_Constant_int (q _ _ _ (.same (av:=.int i) S.sat ⟨_,rfl⟩))
theorem A3 {i:String} {kd:Nat}:Cf k fi (.Constant (.str (Str.ofString i)) kd pos) (An (.str i)):=by
 intro c env σ m av' σ' hD A ρ h d tk os Q E r S q
 cases hD
 exact wpAny_Constant_str (q _ _ _ (.same (av:=.str i) S.sat ⟨_,rfl⟩))
theorem A2 {kd:Nat}:Cf k fi (.Constant .none kd pos) (An .none):=by
 intro c env σ m av' σ' hD A ρ h d tk os Q E r S q
 cases hD
 exact wpAny_Constant_none (q _ _ _ (.same (av:=.none) S.sat rfl))
theorem B4 {b:Bool} {kd:Nat}:Cf k fi (.Constant (.bool b) kd pos) (An (.bool b)):=by
 intro c env σ m av' σ' hD A ρ h d tk os Q E r S q
 cases hD
 exact wpAny_Constant_bool (q _ _ _ (.same (av:=.bool b) S.sat rfl))
end
inductive ClsEx (c:Cx) (C N:Addr):Prop
 | mk nm q bs sn sub ab col dd k0 k1 k2 k3 k5 (e:c.hB.get? C=some (excClassObj nm q C N bs [.type "object"] true sn sub ab col dd k0 k1 k2 k3 k5 "object.__new__")):ClsEx c C N
theorem Ahs (c:Cx) {C N:Addr} (e:Mm C=some N):ClsEx c C N:=by
 unfold Mm at e
 split at e <;> cases e
 all_goals exact ⟨_,_,_,_,_,_,_,_,_,_,_,_,_,c.kin _ _ rfl⟩
noncomputable def Gh (P:Params) (C:Addr) (n:String):Bool:=match Mm C with
 | some N=>nsOkIn (K0 P) N && nsIn (K0 P) N (sx n) == some none && nsIn (K0 P) N "__getattribute__" == some none && nsIn (K0 P) N "__setattr__" == some none && fastLookup "object" (sx n) == some none
 | none=>false
noncomputable def Fg:List String:=["number", "caller", "target", "key", "values", "state", "deadline", "is_firm", "is_conditional", "found", "now", "name", "master", "queues", "open", "wake", "late", "call", "serving", "masters", "raised", "answer",
 "is_abnormal", "inside", "activator", "pending", "has_failed", "stack", "frame", "result", "bases", "caught", "resume", "leaving", "line", "owner", "dependents", "is_ended", "width", "steps", "depth", "members", "text", "tasks", "heap",
 "limits", "choose", "clock", "numbers", "settled", "library", "lost", "serve"]
theorem Ag3 (P:Params):(Fg.all fun n=>Gh P 31 n && Gh P 134 n && Gh P 190 n && Gh P 323 n && Gh P 468 n && Gh P 496 n)=true:=by kernel_rfl
theorem Ai0 {P:Params} {C:Addr} {n:String} (hC:(Mm C).isSome=true) (hn:Fg.contains n=true):Gh P C n=true:=by
 have h:=List.all_eq_true.mp (Ag3 P) n (by simpa using hn)
 simp only [Bool.and_eq_true] at h
 unfold Mm at hC
 split at hC
 all_goals first | (cases hC; done) | simp [h]
inductive PlainF (c:Cx) (C:Addr) (n:String):Prop
 | mk (N:Addr) (mN:Str→Option Value) (a:Mm C=some N) (b:c.hB.Ns N mN) (d:mN (sx n)=none) (e:mN "__getattribute__" = none) (f:mN "__setattr__" = none) (g:typeLookup (.type "object") (sx n)=pure none):PlainF c C n
theorem R4 (c:Cx) {C:Addr} {n:String} (hC:(Mm C).isSome=true) (hn:Fg.contains n=true):PlainF c C n:=by
 have e:=Ai0 (P:=c.w.params) hC hn
 unfold Gh at e
 (set_option tactic.hygienic true in split at e)
 ·rename_i N hN
  simp only [Bool.and_eq_true,beq_iff_eq] at e
  obtain ⟨⟨⟨⟨e0,e1⟩,e2⟩,e3⟩,e4⟩:=e
  refine ⟨N,c.hB.nsMap N,hN,.of_isNs (isNs_of_in c.kin e0),nsMap_none_of_in c.kin e0 e1,nsMap_none_of_in c.kin e0 e2,nsMap_none_of_in c.kin e0 e3,?_⟩
  rw [typeLookup_type,builtinLookup_eq_fast,e4]
 ·cases e
theorem Ce.handed {ρ:Pl} {h:Heap}:∀ {av:AVal} {v:Value},Ce ρ h av v→handedOut v=pure v
 | .none,_,r=>by cases r; rfl
 | .bool _,_,r=>by cases r; rfl
 | .int _,_,⟨_,r⟩=>by cases r; rfl
 | .str _,_,⟨_,r⟩=>by cases r; rfl
 | .id _,_,⟨_,_,r⟩=>by cases r; rfl
 | .base _,_,r=>by cases r; rfl
 | .tup _,_,⟨_,_,r,_⟩=>by cases r; rfl
 | .flist _,_,⟨_,_,r,_⟩=>by cases r; rfl
 | .rng _ _,_,⟨_,_,_,_,r,_⟩=>by cases r; rfl
 | .any,v,r=>by
  cases v with
  | builtin s=>exact absurd rfl (r s)
  | _=>rfl
theorem Sat.baseNs {c:Cx} {ρ:Pl} {σ:AS} {h:Heap} (S:Sat c ρ σ h) {N:Addr} {mN:Str→Option Value} (x:c.hB.Ns N mN):h.Ns N mN:=x.keeps S.base
noncomputable def AS.field (σ:AS) (v:AVal) (n:String):Option AVal:=match v with
 | .id i=>match σ.R i with
  | some (.inst _ fs)=>fs.lookup n
  | _=>none
 | _=>none
theorem Ang {c:Cx} {ρ:Pl} {σ:AS} {h:Heap} {av av':AVal} {v:Value} {n:String} {A:Around} {d:Drawn} {tk:Tok} {os:OsState} {Q:Value→Shared→Prop} {E:Value→Shared→Prop} {expr:Bool}
  (S:Sat c ρ σ h) (hv:Ce ρ h av v) (hf:σ.field av n=some av') (hn:Fg.contains n=true)
  (q:∀ v tk',Ce ρ h av' v→Q v ⟨h,#[],d,tk',os⟩):wpAny c.M A (getAttr v (sx n) expr) Q E ⟨h,#[],d,tk,os⟩:=by
 unfold AS.field at hf
 (set_option tactic.hygienic true in split at hf)
 ·rename_i i
  (set_option tactic.hygienic true in split at hf)
  ·rename_i C fs hi
   obtain ⟨p',hp',hne,hC,ho,mA,h1,h2,h3,h5⟩:=S.objs i _ hi
   obtain ⟨p,hp,rfl⟩:=hv
   obtain rfl:p=p':=Option.some.inj (hp.symm.trans hp')
   obtain ⟨N,mN,e1,e2,e3,e4,e5,e6⟩:=R4 c hC hn
   obtain ⟨nm,q',bs,sn,sub,ab,col,dd,k0,k1,k2,k3,k5,hC⟩:=Ahs c e1
   obtain ⟨v,hv,hr⟩:=h5 n av' hf
   exact load_attr (S.base _ _ hC) (S.baseNs e2) e4 e3 e6 ⟨_,ho,rfl,fun _ z=>(by cases z),.inr ⟨p.2,rfl,fun z=>hne z.symm,h1⟩⟩ hv hr.handed (q v _ hr)
  ·cases hf
 ·cases hf
noncomputable def A1 (d:D) (n:String):D:=fun m σ=>(d m σ).bind fun p=>(p.2.field p.1 n).map (·,p.2)
inductive Bnd {α β:Type} (x:Option α) (f:α→Option β) (b:β):Prop
 | mk (a:α) (h1:x=some a) (h2:f a=some b):Bnd x f b
inductive Mpd {α β:Type} (x:Option α) (f:α→β) (b:β):Prop
 | mk (a:α) (h1:x=some a) (h2:f a=b):Mpd x f b
theorem bind_some {α β:Type} {x:Option α} {f:α→Option β} {b:β} (h:x.bind f=some b):Bnd x f b:=by
 cases x with
 | none=>cases h
 | some a=>exact ⟨a,rfl,h⟩
theorem B0 {α β:Type} {x:Option α} {f:α→β} {b:β} (h:x.map f=some b):Mpd x f b:=by
 cases x with
 | none=>cases h
 | some a=>exact ⟨a,rfl,Option.some.inj h⟩
section
variable {k:Nat} {fi:Fi} {pos:Pos}
theorem Ao {e:Expr} {n:String} {dd:D} (he:Cf k fi e dd) (hn:Fg.contains n=true:=by decide)
  (hb:∀ env w,attributeBase e (sx n) env w=w:=by intro _ _; rfl):Cf k fi (.Attribute e (Str.ofString n) pos) (A1 dd n):=by
 intro c env σ m av σ' hD A ρ h d tk os Q E r S q
 obtain ⟨⟨a1,σ₁⟩,hD1,hD2⟩:=bind_some hD
 obtain ⟨a2,hf,e2⟩:=B0 hD2
 cases e2
 rw [arm_eval_Attribute,hb]
 refine wpAny_bind (he c env σ m a1 σ₁ hD1 A ρ h d tk os _ E r S fun v h₁ tk₁ D=>?_)
 obtain ⟨ρ₁,e₁,o₁,S₁,hv⟩:=D
 refine wpAny_bind (wpAny_standAt (wpAny_bind (wpAny_holding (Ang S₁ hv hf hn fun v tk' hr=>?_))))
 exact wpAny_bind (wpAny_letTemporaryGo (wpAny_pure (q _ _ _ (.after e₁ o₁ (.same S₁ hr)))))
end
end
section
theorem E4 {a b:String} (h:sx a=sx b):a=b:=by
 have h':(⟨(a.toList.map Char.toNat).toArray⟩:Str)=⟨(b.toList.map Char.toNat).toArray⟩:=by
  rw [← Str.ofString_eq_toList,← Str.ofString_eq_toList]; exact h
 injection h' with h1
 have h2:a.toList.map Char.toNat=b.toList.map Char.toNat:=by simpa using h1
 have inj:∀ x y:Char,x.toNat=y.toNat→x=y:=fun x y e=>Char.toNat_inj.mp e
 have h3:a.toList=b.toList:=by
  generalize a.toList=l at h2
  generalize b.toList=r at h2
  induction l generalizing r with
  | nil=>cases r with
   | nil=>rfl
   | cons y r=>cases h2
  | cons x l ih=>cases r with
   | nil=>cases h2
   | cons y r =>
    simp only [List.map_cons,List.cons.injEq] at h2
    rw [inj x y h2.1,ih r h2.2]
 exact String.ext h3
inductive AFl where
 | next
 | ret (v:AVal)
noncomputable abbrev SD:=B1→AS→Option (AFl×B1×AS)
noncomputable def Amj (ρ:Pl) (h:Heap):AFl→Flow→Prop
 | .next,f=>f=.next
 | .ret av,f=>∃ v,f=.ret v∧Ce ρ h av v
noncomputable def Oc (ρ:Pl) (fi:Fi) (env:Env) (h h':Heap):Prop:=(∀ b o,h.get? b=some o→¬ρ.Put b→∃ o',h'.get? b=some o')∧∀ b o,h.get? b=some o→¬ρ.Put b→¬Own fi env b→h'.get? b=some o
noncomputable def Sx (c:Cx) (k:Nat) (fi:Fi) (env:Env) (σ:AS) (m:B1) (t:Sem Flow) (fl:AFl) (m':B1) (σ':AS):Prop :=
 ∀ (A:Around) (ρ:Pl) (h:Heap) (d:Drawn) (tk:Tok) (os:OsState) (Q:Flow→Shared→Prop) (E:Value→Shared→Prop),Room A k→St c ρ fi σ env m h →
  (∀ f h' tk' ρ',Amj ρ' h' fl f→Ext ρ ρ' h→Oc ρ fi env h h'→St c ρ' fi σ' env m' h'→Q f ⟨h',#[],d,tk',os⟩)→wpAny c.M A t Q E ⟨h,#[],d,tk,os⟩
noncomputable def Mk (k:Nat) (fi:Fi) (s:Stmt) (S:SD):Prop:=∀ c env σ m fl m' σ',S m σ=some (fl,m',σ')→Sx c k fi env σ m (exec s env) fl m' σ'
noncomputable def Cs (k:Nat) (fi:Fi) (ss:List Stmt) (S:SD):Prop:=∀ c env σ m fl m' σ',S m σ=some (fl,m',σ')→Sx c k fi env σ m (execs ss env) fl m' σ'
theorem Old.x {ρ:Pl} {fi:Fi} {env:Env} {h h':Heap} (k:Old ρ h h'):Oc ρ fi env h h':=⟨k.live,fun b o e n J=>k b o e n⟩
theorem Oc.trans {ρ ρ₁:Pl} {fi:Fi} {env:Env} {h h₁ h₂:Heap} (x:Oc ρ fi env h h₁) (e:Ext ρ ρ₁ h) (y:Oc ρ₁ fi env h₁ h₂):Oc ρ fi env h h₂ :=
 ⟨fun b o hb hn=>let ⟨o',ho'⟩:=x.1 b o hb hn; y.1 b o' ho' (e.notPut hb hn),fun b o hb hn ho=>y.2 b o (x.2 b o hb hn ho) (e.notPut hb hn) ho⟩
theorem Own.notSeq {c:Cx} {ρ:Pl} {fi:Fi} {σ:AS} {env:Env} {m:B1} {h:Heap} (S:St c ρ fi σ env m h) {a:Nat} (ha:Own fi env a) {o:Obj} (ho:h.get? a=some o):¬Ul o:=by
 rintro (⟨xs,n,hd⟩ | ⟨_,xs,hd⟩)
 all_goals
  rcases ha with rfl | ⟨x,hx,ha⟩
  ·obtain ⟨mm,⟨o',es,ep,ho',hd',_⟩,_⟩:=S.locs
   rw [ho'] at ho; cases ho; rw [hd] at hd'; cases hd'
  ·obtain ⟨a',v,ha',o',ho',hd'⟩:=S.cell x hx
   rw [ha] at ha'; cases ha'
   rw [ho'] at ho; cases ho; rw [hd] at hd'; cases hd'
theorem Oc.fz {c:Cx} {ρ:Pl} {fi:Fi} {σ:AS} {env:Env} {m:B1} {h h':Heap} (S:St c ρ fi σ env m h) (k:Oc ρ fi env h h'):Fz ρ h h':=fun b o e hs n =>
 k.2 b o e (Pl.Mut.put n) fun q=>Own.notSeq S q e hs
noncomputable def Bd:B1→String→AVal→B1
 | [],x,v=>[(x,v)]
 | (y,w) :: r,x,v=>if x=y then (y,v) :: r else (y,w) :: Bd r x v
theorem Gf:∀ (m:B1) (x y:String) (v:AVal),(Bd m x v).lookup y=if y=x then some v else m.lookup y
 | [],x,y,v=>by
  unfold Bd
  by_cases h:y=x
  ·subst h; simp
  ·have:(y == x)=false:=by simpa using h
   simp [List.lookup_cons,this,h]
 | (z,w) :: r,x,y,v=>by
  unfold Bd
  (set_option tactic.hygienic true in split)
  ·rename_i h
   subst h
   by_cases h:y=x
   ·subst h; simp
   ·have:(y == x)=false:=by simpa using h
    simp [List.lookup_cons,this,h]
  ·rename_i h
   by_cases h2:y=z
   ·subst h2
    simp [Ne.symm h]
   ·have:(y == z)=false:=by simpa using h2
    rw [List.lookup_cons,this,List.lookup_cons,this]
    exact Gf r x y v
theorem St.own1 {c:Cx} {ρ:Pl} {fi:Fi} {σ:AS} {env:Env} {m m':B1} {h h':Heap} (S:St c ρ fi σ env m h) {a:Nat} (ha:Own fi env a) (hs:Heap.SameBut a h h') (hl:Tk ρ h' fi env m')
  (hc:∀ x,x∈fi.cs→∃ a v,env.cells.lookup (sx x)=some a∧h'.IsCell a v):St c ρ fi σ env m' h'∧Oc ρ fi env h h':=by
 have hlv:∃ o,h'.get? a=some o:=by
  rcases ha with rfl | ⟨x,hx,ha⟩
  ·obtain ⟨mm,⟨o',es,ep,ho',_⟩,_⟩:=hl
   exact ⟨o',ho'⟩
  ·obtain ⟨a',v,ha',o',ho',_⟩:=hc x hx
   rw [ha] at ha'; cases ha'
   exact ⟨o',ho'⟩
 have live:∀ b o,h.get? b=some o→∃ o',h'.get? b=some o':=fun b o e=>by
  by_cases hb:b=a
  ·subst hb; exact hlv
  ·exact ⟨o,(hs.2 b hb).trans e⟩
 have ho:Oc ρ fi env h h':=⟨fun b o e J=>live b o e,fun b o e J n=>(hs.2 b fun q=>n (q ▸ ha)).trans e⟩
 refine ⟨⟨S.sat.step (ho.fz S) (fun b o e=>(hs.2 b (S.sat.notBase (S.own a ha).2.1 e)).trans (S.sat.base b o e)) (fun b o e q=>(hs.2 b ?_).trans e) (fun b o J e=>live b o e),hl,fun b hb=>?_,fun b hb=>?_,hc,S.outer,S.env⟩,ho⟩
 ·rintro rfl; exact (S.own _ ha).1 (.inl q)
 ·obtain ⟨h1,h2,o,h3⟩:=S.own b hb; exact ⟨h1,h2,live b o h3⟩
 ·obtain ⟨h1,h2,o,h3⟩:=S.rd b hb; exact ⟨h1,h2,live b o h3⟩
section
variable {c:Cx} {ρ:Pl} {fi:Fi} {σ:AS} {env:Env} {m:B1} {h:Heap} {A:Around} {d:Drawn} {tk:Tok} {os:OsState} {E:Value→Shared→Prop} {x:String} {av:AVal} {v:Value}
theorem St.storeLoc {Q:Unit→Shared→Prop} (S:St c ρ fi σ env m h) (hx:Pp fi x=true) (hv:Ce ρ h av v)
  (q:∀ h' tk',St c ρ fi σ env (Bd m x av) h'→Oc ρ fi env h h'→Q () ⟨h',#[],d,tk',os⟩):wpAny c.M A (storeName env (sx x) v) Q E ⟨h,#[],d,tk,os⟩:=by
 simp only [Pp,Bool.and_eq_true,Bool.not_eq_true',beq_iff_eq,List.contains_eq_mem,decide_eq_false_iff_not] at hx
 obtain ⟨⟨⟨h1,h2⟩,h3⟩,h4⟩:=hx
 obtain ⟨mm,hn,hl⟩:=S.locs
 refine wpAny_storeName_local ((S.env.kindOf x).trans h1) hn (fun h' hn' hs=>?_) (by rw [S.env.kind]; rfl)
 have hfz:Fz ρ h h':=fun b o e hd n=>(hs.2 b fun z=>Own.notSeq S (.inl z) e hd).trans e
 refine (fun z=>q h' _ z.1 z.2) (S.own1 (m':=Bd m x av) (.inl rfl) hs ⟨_,hn',fun y aw hy=>?_⟩ fun y hy=>?_)
 ·rw [Gf] at hy
  (set_option tactic.hygienic true in split at hy)
  ·rename_i e
   subst e
   cases hy
   exact ⟨v,hv.monoF (Ext.refl _ _) hfz,.inl ⟨h2,h3,if_pos rfl⟩⟩
  ·rename_i e
   obtain ⟨w,hw,hr⟩:=hl y aw hy
   refine ⟨w,hw.monoF (Ext.refl _ _) hfz,?_⟩
   rcases hr with ⟨r1,r2,r3⟩ | ⟨r1,a,r2,o,r3,r4⟩
   ·exact .inl ⟨r1,r2,by rw [if_neg fun z=>e (E4 z)]; exact r3⟩
   ·exact .inr ⟨r1,a,r2,o,(hs.2 a (S.env.off _ _ r2)).trans r3,r4⟩
 ·obtain ⟨a,w,r2,o,r3,r4⟩:=S.cell y hy
  exact ⟨a,w,r2,o,(hs.2 a (S.env.off _ _ r2)).trans r3,r4⟩
noncomputable def Kn (fi:Fi) (x:String):Bool:=Ry fi x == some .cell && fi.cs.contains x
theorem St.storeCel {Q:Unit→Shared→Prop} (S:St c ρ fi σ env m h) (hx:Kn fi x=true) (hv:Ce ρ h av v)
  (q:∀ h' tk',St c ρ fi σ env (Bd m x av) h'→Oc ρ fi env h h'→Q () ⟨h',#[],d,tk',os⟩):wpAny c.M A (storeName env (sx x) v) Q E ⟨h,#[],d,tk,os⟩:=by
 simp only [Kn,Bool.and_eq_true,beq_iff_eq,List.contains_eq_mem,decide_eq_true_eq] at hx
 obtain ⟨h1,h2⟩:=hx
 obtain ⟨mm,hn,hl⟩:=S.locs
 obtain ⟨a,v₀,ha,hcell⟩:=S.cell x h2
 refine wpAny_storeName_cell S.env.kind ((S.env.kindOf x).trans h1) ha hcell (fun h' hc' hs=>?_)
 have hown:Own fi env a:=.inr ⟨x,h2,ha⟩
 have hfz:Fz ρ h h':=fun b o e hd n=>(hs.2 b fun z=>Own.notSeq S (z ▸ hown) e hd).trans e
 have hoff:=S.env.off _ _ ha
 refine (fun z=>q h' _ z.1 z.2) (S.own1 (m':=Bd m x av) hown hs ⟨mm,hn.sameBut hs (Ne.symm hoff),fun y aw hy=>?_⟩ fun y hy=>?_)
 ·rw [Gf] at hy
  (set_option tactic.hygienic true in split at hy)
  ·rename_i e
   subst e
   cases hy
   exact ⟨v,hv.monoF (Ext.refl _ _) hfz,.inr ⟨.inl h2,a,ha,hc'⟩⟩
  ·rename_i e
   obtain ⟨w,hw,hr⟩:=hl y aw hy
   refine ⟨w,hw.monoF (Ext.refl _ _) hfz,?_⟩
   rcases hr with ⟨r1,r2,r3⟩ | ⟨r1,b,r2,o,r3,r4⟩
   ·exact .inl ⟨r1,r2,r3⟩
   ·exact .inr ⟨r1,b,r2,o,(hs.2 b fun z=>e (E4 (S.env.apart _ _ _ r2 (z ▸ ha)))).trans r3,r4⟩
 ·by_cases e:y=x
  ·subst e; exact ⟨a,_,ha,hc'⟩
  ·obtain ⟨b,w,r2,o,r3,r4⟩:=S.cell y hy
   exact ⟨b,w,r2,o,(hs.2 b fun z=>e (E4 (S.env.apart _ _ _ r2 (z ▸ ha)))).trans r3,r4⟩
end
noncomputable def Ez:SD:=fun J J=>none
noncomputable def Aq:SD:=fun m σ=>some (.next,m,σ)
noncomputable def Am (a b:SD):SD:=fun m σ=>(a m σ).bind fun p=>match p with
 | (.next,m',σ')=>b m' σ'
 | (.ret v,m',σ')=>some (.ret v,m',σ')
noncomputable def Bb (x:String) (dd:D):SD:=fun m σ=>(dd m σ).map fun p=>(.next,Bd m x p.1,p.2)
noncomputable def C4 (dd:D):SD:=fun m σ=>(dd m σ).map fun p=>(.ret p.1,m,p.2)
noncomputable def Bw (dd:D):SD:=fun m σ=>(dd m σ).map fun p=>(.next,m,p.2)
noncomputable def sIf (bb:B) (a b:SD):SD:=fun m σ=>(bb m σ).bind fun p=>if p.1 then a m p.2 else b m p.2
section
variable {k:Nat} {fi:Fi} {pos pos':Pos}
theorem C6 {s:List Stmt}:Cs k fi s Ez:=fun J J J J J J J h=>by cases h
theorem Aj:Cs k fi [] Aq:=by
 intro c env σ m fl m' σ' hS A ρ h d tk os Q E r S q
 cases hS
 exact wpAny_execs_nil (q _ _ _ _ rfl (Ext.refl _ _) (Old.refl _ _).x S)
set_option tactic.hygienic true in
theorem Ab {s:Stmt} {ss:List Stmt} {a b:SD} (ha:Mk k fi s a) (hb:Cs k fi ss b):Cs k fi (s :: ss) (Am a b):=by
 intro c env σ m fl m' σ' hS A ρ h d tk os Q E r S q
 obtain ⟨⟨f₁,m₁,σ₁⟩,h1,h2⟩:=bind_some hS
 refine wpAny_execs_cons (ha c env σ m f₁ m₁ σ₁ h1 A ρ h d tk os _ E r S fun f h' tk' ρ' hf e o S'=>?_)
 cases f₁ with
 | next =>
  cases hf
  refine hb c env σ₁ m₁ fl m' σ' h2 A ρ' h' d tk' os Q E r S' fun f h'' tk'' ρ'' hf e' o' S''=>?_
  exact q f h'' tk'' ρ'' hf (e.trans e' o.1) (o.trans e o') S''
 | ret av =>
  cases h2
  obtain ⟨v,rfl,hv⟩:=hf
  exact q _ _ _ ρ' ⟨v,rfl,hv⟩ e o S'
theorem Bf {x:String} {e:Expr} {dd:D} (he:Cf k fi e dd) (hx:Pp fi x=true:=by kernel_rfl)
  (hs:∀ env:Env,swapsWith e (some (.Name (sx x) pos')) pos.line env=pure false:=by intro _; rfl):Mk k fi (.Assign [.Name (Str.ofString x) pos'] e pos) (Bb x dd):=by
 intro c env σ m fl m' σ' hS A ρ h d tk os Q E r S q
 obtain ⟨⟨av,σ₁⟩,h1,h2⟩:=B0 hS
 cases h2
 refine wpAny_Assign_Name (he c env σ m av σ₁ h1 A ρ h d tk os _ E r S fun v h₁ tk₁ D=>?_) (hs env)
 obtain ⟨ρ₁,e₁,o₁,S₁,hv⟩:=D
 refine (S.next e₁ o₁ S₁).storeLoc hx hv fun h' tk' S' o'=>?_
 exact q _ _ _ ρ₁ rfl e₁ (o₁.x.trans e₁ o') S'
theorem Gl {x:String} {e:Expr} {dd:D} (he:Cf k fi e dd) (hx:Kn fi x=true)
  (hs:∀ env:Env,swapsWith e (some (.Name (sx x) pos')) pos.line env=pure false:=by intro _; rfl):Mk k fi (.Assign [.Name (Str.ofString x) pos'] e pos) (Bb x dd):=by
 intro c env σ m fl m' σ' hS A ρ h d tk os Q E r S q
 obtain ⟨⟨av,σ₁⟩,h1,h2⟩:=B0 hS
 cases h2
 refine wpAny_Assign_Name (he c env σ m av σ₁ h1 A ρ h d tk os _ E r S fun v h₁ tk₁ D=>?_) (hs env)
 obtain ⟨ρ₁,e₁,o₁,S₁,hv⟩:=D
 refine (S.next e₁ o₁ S₁).storeCel hx hv fun h' tk' S' o'=>?_
 exact q _ _ _ ρ₁ rfl e₁ (o₁.x.trans e₁ o') S'
theorem Bq {e:Expr} {dd:D} (he:Cf k fi e dd):Mk k fi (.Return (some e) pos) (C4 dd):=by
 intro c env σ m fl m' σ' hS A ρ h d tk os Q E r S q
 obtain ⟨⟨av,σ₁⟩,h1,h2⟩:=B0 hS
 cases h2
 refine wpAny_Return_some (he c env σ m av σ₁ h1 A ρ h d tk os _ E r S fun v h₁ tk₁ D=>?_)
 obtain ⟨ρ₁,e₁,o₁,S₁,hv⟩:=D
 exact q _ _ _ ρ₁ ⟨v,rfl,hv⟩ e₁ o₁.x (S.next e₁ o₁ S₁)
theorem Et:Mk k fi (.Return none pos) (C4 (An .none)):=by
 intro c env σ m fl m' σ' hS A ρ h d tk os Q E r S q
 cases hS
 exact wpAny_Return_none (q _ _ _ ρ ⟨.none,rfl,rfl⟩ (Ext.refl _ _) (Old.refl _ _).x S)
theorem Ui {env:Env} (h:env.scope.kind=.function):interactive env=false:=by
 unfold interactive
 rw [h]; rfl
theorem Bc {e:Expr} {dd:D} (he:Cf k fi e dd) (hs:∀ env:Env,swapsWith e none pos.line env=pure false:=by intro _; rfl):Mk k fi (.Expr e pos) (Bw dd):=by
 intro c env σ m fl m' σ' hS A ρ h d tk os Q E r S q
 obtain ⟨⟨av,σ₁⟩,h1,h2⟩:=B0 hS
 cases h2
 refine wpAny_Expr_any (he c env σ m av σ₁ h1 A ρ h d tk os _ E r S fun v h₁ tk₁ D=>?_) (Ui S.env.kind) (hs env)
 obtain ⟨ρ₁,e₁,o₁,S₁,hv⟩:=D
 exact q _ _ _ ρ₁ rfl e₁ o₁.x (S.next e₁ o₁ S₁)
set_option tactic.hygienic true in
theorem Bn {t:Expr} {bb:B} {ss es:List Stmt} {a b:SD} (ht:Tl k fi t bb) (ha:Cs k fi ss a) (hb:Cs k fi es b):Mk k fi (.If t ss es pos) (sIf bb a b):=by
 intro c env σ m fl m' σ' hS A ρ h d tk os Q E r S q
 obtain ⟨⟨x,σ₁⟩,h1,h2⟩:=bind_some hS
 refine wpAny_If (ht c env σ m x σ₁ h1 A ρ h d tk os _ E r S fun ρ₁ h₁ tk₁ e₁ o₁ S₁=>?_)
 cases x with
 | true =>
  refine ha c env σ₁ m fl m' σ' h2 A ρ₁ h₁ d tk₁ os Q E r (S.next e₁ o₁ S₁) fun f h'' tk'' ρ'' hf e' o' S''=>?_
  exact q f h'' tk'' ρ'' hf (e₁.trans e' o₁.live) (o₁.x.trans e₁ o') S''
 | false =>
  refine hb c env σ₁ m fl m' σ' h2 A ρ₁ h₁ d tk₁ os Q E r (S.next e₁ o₁ S₁) fun f h'' tk'' ρ'' hf e' o' S''=>?_
  exact q f h'' tk'' ρ'' hf (e₁.trans e' o₁.live) (o₁.x.trans e₁ o') S''
end
end
section
noncomputable def AS.setF (σ:AS) (o:AVal) (n:String) (w:AVal):Option AS:=match o with
 | .id i=>match σ.R i with
  | some (.inst C fs)=>if fs.length < 200 then some (σ.set i (.inst C (Bd fs n w))) else none
  | _=>none
 | _=>none
theorem Acu (m:B1) (x:String) (v:AVal):(Bd m x v).length≤m.length + 1:=by
 induction m with
 | nil=>simp [Bd]
 | cons y r ih =>
  obtain ⟨y,w⟩:=y
  unfold Bd
  split
  ·simp
  ·simp only [List.length_cons]; lia
theorem Ym (m:B1) (x:String) (v:AVal) (y:String):(y=x∨y∈m.map (·.1))→y∈(Bd m x v).map (·.1):=by
 induction m with
 | nil=>simp [Bd]
 | cons z r ih =>
  obtain ⟨z,w⟩:=z
  unfold Bd
  intro h
  (set_option tactic.hygienic true in split)
  ·rename_i e
   subst e
   simpa using h
  ·rename_i e
   simp only [List.map_cons,List.mem_cons] at h ⊢
   rcases h with h | h | h
   ·exact .inr (ih (.inl h))
   ·exact .inl h
   ·exact .inr (ih (.inr h))
theorem Ao6 {c:Cx} {ρ:Pl} {σ σ':AS} {h:Heap} {ov av:AVal} {o v:Value} {n:String} {A:Around} {d:Drawn} {tk:Tok} {os:OsState} {Q:Unit→Shared→Prop} {E:Value→Shared→Prop}
  (S:Sat c ρ σ h) (ho:Ce ρ h ov o) (hv:Ce ρ h av v) (hf:σ.setF ov n av=some σ') (hn:Fg.contains n=true)
  (q:∀ h' tk',Sat c ρ σ' h'→Old ρ h h'→Q () ⟨h',#[],d,tk',os⟩):wpAny c.M A (setAttr o (sx n) v) Q E ⟨h,#[],d,tk,os⟩:=by
 unfold AS.setF at hf
 (set_option tactic.hygienic true in split at hf)
 ·rename_i i
  (set_option tactic.hygienic true in split at hf)
  ·rename_i C fs hi
   (set_option tactic.hygienic true in split at hf)
   ·rename_i hlen
    cases hf
    obtain ⟨p',hp',hne,hC,hob,mA,h1,h2,h3,h5⟩:=S.objs i _ hi
    obtain ⟨p,hp,rfl⟩:=ho
    obtain rfl:p=p':=Option.some.inj (hp.symm.trans hp')
    obtain ⟨N,mN,e1,e2,e3,e4,e5,e6⟩:=R4 c hC hn
    obtain ⟨nm,q',bs,sn,sub,ab,col,dd,k0,k1,k2,k3,k5,hCo⟩:=Ahs c e1
    have hlo:=S.lo i p hp
    have hxC:p.1≠C:=fun z=>S.notBase hlo.1.1 hCo z.symm
    refine store_attr F.store_object (S.base _ _ hCo) (S.baseNs e2) e5 e3 e6 hxC ⟨_,hob,rfl,fun _ z=>(by cases z),.inr ⟨p.2,rfl,fun z=>hne z.symm,h1⟩⟩ (fun h' tk' I hk hsame=>?_) h2 (by rw [List.length_map,sizeLine_eq]; lia)
    obtain ⟨o₁,g1,g2,g3,g4,g5⟩:=hsame _ hob
    have g5:=g5 _ rfl
    have ho₁:o₁=instObj C p.2:=by
     cases o₁
     simp_all [instObj]
    subst ho₁
    obtain ⟨o₂,i1,i2,i3,i4⟩:=I
    rw [g1] at i1; cases i1
    rcases i4 with ⟨i4,_⟩ | ⟨dx,i4,i5,i6⟩
    ·cases i4
    ·cases i4
     have hkk:∀ b x,h.get? b=some x→b≠p.1→b≠p.2→h'.get? b=some x:=fun b x e n1 n2=>hk b x n1 (fun o₀ dx e0 e1=>by rw [hob] at e0; cases e0; cases e1; exact n2) e
     have hold:Old ρ h h':=fun b x e hn=>hkk b x e (fun q=>hn ⟨i,p,hp,.inl q⟩) (fun q=>hn ⟨i,p,hp,.inr q⟩)
     refine (fun z=>q h' tk' z.1 z.2) (S.change hp hkk (o:=.inst C (Bd fs n av)) ⟨hne,hC,g1,_,i6,?_,?_,?_⟩)
     ·intro y hy
      have:y=sx n∨y∈fs.map fun e=>sx e.1:=by
       by_cases hyn:y=sx n
       ·exact .inl hyn
       ·exact .inr (h2 y (by simpa [hyn] using hy))
      rcases this with rfl | hm
      ·have:=Ym fs n av n (.inl rfl)
       obtain ⟨e,he,rfl⟩:=List.mem_map.mp this
       exact List.mem_map.mpr ⟨e,he,rfl⟩
      ·obtain ⟨e,he,rfl⟩:=List.mem_map.mp hm
       have:=Ym fs n av e.1 (.inr (List.mem_map.mpr ⟨e,he,rfl⟩))
       obtain ⟨e',he',q⟩:=List.mem_map.mp this
       exact List.mem_map.mpr ⟨e',he',by rw [q]⟩
     ·have:=Acu fs n av; lia
     ·intro y aw hy
      rw [Gf] at hy
      (set_option tactic.hygienic true in split at hy)
      ·rename_i e
       subst e; cases hy
       exact ⟨v,by simp,hv.mono (Ext.refl _ _) hold⟩
      ·rename_i e
       obtain ⟨w,hw,hr⟩:=h5 y aw hy
       exact ⟨w,by show (if sx y=sx n then some v else mA (sx y))=some w; rw [if_neg fun z=>e (E4 z)]; exact hw,hr.mono (Ext.refl _ _) hold⟩
   ·cases hf
  ·cases hf
 ·cases hf
noncomputable def Bj (dv dob:D) (n:String):SD:=fun m σ=>(dv m σ).bind fun p=>(dob m p.2).bind fun q=>(q.2.setF q.1 n p.1).map fun σ'=>(.next,m,σ')
section
variable {k:Nat} {fi:Fi} {pos pos':Pos}
set_option tactic.hygienic true in
theorem As {o e:Expr} {n:String} {dv dob:D} (he:Cf k fi e dv) (ho:Cf k fi o dob) (hn:Fg.contains n=true:=by decide)
  (hs:∀ env:Env,swapsWith e (some (.Attribute o (sx n) pos')) pos.line env=pure false:=by intro _; rfl):Mk k fi (.Assign [.Attribute o (Str.ofString n) pos'] e pos) (Bj dv dob n):=by
 intro c env σ m fl m' σ' hS A ρ h d tk os Q E r S q
 obtain ⟨⟨av,σ₁⟩,h1,h2⟩:=bind_some hS
 obtain ⟨⟨ov,σ₂⟩,h3,h4⟩:=bind_some h2
 obtain ⟨σ₃,h5,h6⟩:=B0 h4
 cases h6
 refine plainObj_wpAny_Assign_Attribute (he c env σ m av σ₁ h1 A ρ h d tk os _ E r S fun v h₁ tk₁ D=>?_) (hs env)
 obtain ⟨ρ₁,e₁,o₁,S₁,hv⟩:=D
 refine ho c env σ₁ m ov σ₂ h3 A ρ₁ h₁ d tk₁ os _ E r (S.next e₁ o₁ S₁) fun w h₂ tk₂ D=>?_
 obtain ⟨ρ₂,e₂,o₂,S₂,hw⟩:=D
 refine Ao6 S₂ hw (hv.mono e₂ o₂) h5 hn fun h₃ tk₃ S₃ o₃=>?_
 have e12:=e₁.trans e₂ o₁.live
 have o12:=o₁.trans e₁ o₂
 exact q _ _ _ ρ₂ rfl e12 (o12.trans e12 o₃).x (S.next e12 (o12.trans e12 o₃) S₃)
end
noncomputable def AS.lst (σ:AS):AVal→Option (List AVal)
 | .flist xs=>some xs
 | .id i=>match σ.R i with
  | some (.list xs)=>some xs
  | _=>none
 | _=>none
inductive LsEx (ρ:Pl) (h:Heap) (xs:List AVal) (v:Value):Prop
 | mk (a:Addr) (vs:List Value) (b:v=.ref a) (d:h.IsList a vs.toArray) (e:vs.length≤1000000) (f:Bm ρ h xs vs):LsEx ρ h xs v
theorem Sat.list {c:Cx} {ρ:Pl} {σ:AS} {h:Heap} (S:Sat c ρ σ h) {av:AVal} {v:Value} {xs:List AVal} (hv:Ce ρ h av v) (hx:σ.lst av=some xs) :
  LsEx ρ h xs v:=by
 unfold AS.lst at hx
 (set_option tactic.hygienic true in split at hx)
 ·cases hx
  obtain ⟨a,vs,e,_,h1,hl,h2⟩:=hv
  exact ⟨a,vs,e,h1,hl,h2⟩
 ·rename_i i
  (set_option tactic.hygienic true in split at hx)
  ·rename_i ys hi
   cases hx
   obtain ⟨p,hp,rfl⟩:=hv
   obtain ⟨p',hp',e,vs,h1,hl,h2⟩:=S.objs i _ hi
   obtain rfl:p=p':=Option.some.inj (hp.symm.trans hp')
   exact ⟨_,vs,rfl,h1.isList,hl,h2⟩
  ·cases hx
 ·cases hx
theorem Bm.len {ρ:Pl} {h:Heap}:∀ {xs:List AVal} {vs:List Value},Bm ρ h xs vs→vs.length=xs.length
 | [],_,r=>by cases r; rfl
 | _ :: _,_,⟨v,r,e,_,h2⟩=>by subst e; simp [h2.len]
noncomputable def AS.truth (σ:AS) (av:AVal):Option Bool:=match av with
 | .none=>some false
 | .bool b=>some b
 | .int i=>some (decide (i≠0))
 | av=>(σ.lst av).map fun xs=>!xs.isEmpty
theorem Aay {c:Cx} {ρ:Pl} {σ:AS} {h:Heap} {av:AVal} {v:Value} {b:Bool} {A:Around} {d:Drawn} {tk:Tok} {os:OsState} {Q:Bool→Shared→Prop} {E:Value→Shared→Prop}
  (S:Sat c ρ σ h) (hv:Ce ρ h av v) (hb:σ.truth av=some b) (q:∀ tk',Q b ⟨h,#[],d,tk',os⟩):wpAny c.M A (truthy v) Q E ⟨h,#[],d,tk,os⟩:=by
 unfold AS.truth at hb
 (set_option tactic.hygienic true in split at hb)
 ·cases hb; cases hv; exact truthy_none (q _)
 ·cases hb; cases hv; exact wpAny_truthy_bool (q _)
 ·cases hb
  obtain ⟨t,rfl⟩:=hv
  refine PySem.P.truthy_int ?_
  rename_i i
  by_cases hi:i=0
  ·subst hi; exact q _
  ·have:(i != 0)=decide (i≠0):=by simp [bne,hi]
   rw [this]; exact q _
 ·obtain ⟨xs,hx,rfl⟩:=B0 hb
  obtain ⟨a,vs,rfl,h1,hl,h2⟩:=S.list hv hx
  refine wpAny_truthy_list h1 (by rw [List.size_toArray]; lia) ?_
  have:vs.toArray.isEmpty=xs.isEmpty:=by
   have:=h2.len
   cases vs <;> cases xs <;> simp_all
  rw [this]; exact q _
end
noncomputable def ints?:List AVal→Option (List Int)
 | []=>some []
 | .int i :: r=>(ints? r).map (i :: ·)
 | _ :: _=>none
noncomputable def AS.intss? (σ:AS):List AVal→Option (List (List Int))
 | []=>some []
 | x :: r=>((σ.lst x).bind ints?).bind fun l=>(σ.intss? r).map (l :: ·)
noncomputable def AS.seqEq (σ:AS) (xs ys:List AVal):Option Bool :=
 if xs.length≠ys.length then some false else
  match ints? xs,ints? ys with
  | some l,some r=>some (decide (l=r))
  | _,_=>match σ.intss? xs,σ.intss? ys with
   | some l,some r=>some (decide (l=r))
   | _,_=>none
noncomputable def AS.aeq (σ:AS):AVal→AVal→Option Bool
 | .int x,.int y=>some (decide (x=y))
 | .str x,.str y=>some (decide (x=y))
 | .none,.str _=>some false
 | .base x,.base y=>if x=542∧y=542 then some true else none
 | a,b=>(σ.lst a).bind fun xs=>(σ.lst b).bind fun ys=>σ.seqEq xs ys
theorem Hl {ρ:Pl} {h:Heap}:∀ {xs:List AVal} {vs:List Value} {ns:List Int},Bm ρ h xs vs→ints? xs=some ns→IntsAre vs ns
 | [],_,_,r,e=>by cases r; cases e; exact .nil
 | x :: xs,_,ns,⟨v,r,e1,h1,h2⟩,e=>by
  subst e1
  unfold ints? at e
  (set_option tactic.hygienic true in split at e)
  ·cases ‹x :: xs=[]›
  ·rename_i i r' hh
   cases hh
   obtain ⟨l,hl,rfl⟩:=B0 e
   obtain ⟨t,rfl⟩:=h1
   exact .cons i t (Hl h2 hl)
  ·cases e
theorem Mu {c:Cx} {ρ:Pl} {σ:AS} {h:Heap} (S:Sat c ρ σ h):∀ {xs:List AVal} {vs:List Value} {ls:List (List Int)},Bm ρ h xs vs→σ.intss? xs=some ls →
  ∃ as,ReadsAll h vs (ls.map fun l=>PyData.list (l.map PyData.int)) as
 | [],_,_,r,e=>by cases r; cases e; exact ⟨_,.nil⟩
 | x :: xs,_,ns,⟨v,r,e1,h1,h2⟩,e=>by
  subst e1
  unfold AS.intss? at e
  obtain ⟨l,e1,e2⟩:=bind_some e
  obtain ⟨ys,e3,e4⟩:=bind_some e1
  obtain ⟨ls,e5,rfl⟩:=B0 e2
  obtain ⟨a,vs,rfl,hl,_,hr⟩:=S.list h1 e3
  obtain ⟨as,ih⟩:=Mu S h2 e5
  exact ⟨_,.cons (reads_newData hl (ke_carried (Hl hr e4))) ih⟩
theorem O8:∀ ls rs:List (List Int),PyData.eqvAll (ls.map fun l=>PyData.list (l.map PyData.int)) (rs.map fun l=>PyData.list (l.map PyData.int))=decide (ls=rs)
 | [],[]=>by simp [PyData.eqvAll]
 | [],_ :: _=>by simp [PyData.eqvAll]
 | _ :: _,[]=>by simp [PyData.eqvAll]
 | a :: r,b :: t=>by
  simp only [List.map_cons,PyData.eqvAll,PyData.eqv,O8 r t,ked_eqvAll]
  by_cases h:a=b <;> by_cases h':r=t <;> simp [h,h']
theorem Ij (ls:List (List Int)):SeqAt.shaped (.list (ls.map fun l=>PyData.list (l.map PyData.int)))=true:=by
 have h1:PyData.canLayAll0 (ls.map fun l=>PyData.list (l.map PyData.int))=true:=by
  induction ls with
  | nil=>rfl
  | cons l r ih=>simp [PyData.canLayAll0,PyData.canLay0,ke_canLayAll0,ih]
 have h2:PyData.depthAll (ls.map fun l=>PyData.list (l.map PyData.int))≤1:=by
  induction ls with
  | nil=>simp [PyData.depthAll]
  | cons l r ih =>
   simp only [List.map_cons,PyData.depthAll,PyData.depth,ke_depthAll] at ih ⊢
   exact Nat.max_le.mpr ⟨by lia,ih (by first | exact ‹_› | (simp only [List.map_cons,PyData.canLayAll0,Bool.and_eq_true] at h1; exact h1.2))⟩
 have h3:SeqAt.shaped (.list (ls.map fun l=>PyData.list (l.map PyData.int)))=(true && decide (PyData.depthAll (ls.map fun l=>PyData.list (l.map PyData.int)) + 1≤64)):=by
  simp only [SeqAt.shaped,PyData.canLay0,PyData.depth,h1]; rfl
 rw [h3,Bool.true_and,decide_eq_true_eq]
 lia
theorem Ae2 (c:Cx):∃ t,c.hB.get? 542=some (Ov [.str (sx "feed") t,.none] 0):=⟨_,c.kin _ _ rfl⟩
theorem Room.eqs {A:Around} {k:Nat} (r:Room A k):A.units + 64 < cLine:=by
 have:=r.un
 show A.units + 64 < 9900
 lia
theorem Afo (x y:String):(sx x == sx y)=decide (x=y):=by
 by_cases h:x=y
 ·subst h; simp
 ·have:sx x≠sx y:=fun z=>h (E4 z)
  simp [h,this]
theorem Aop {c:Cx} {ρ:Pl} {σ:AS} {h:Heap} {a b:AVal} {v w:Value} {r:Bool} {A:Around} {k:Nat} {d:Drawn} {tk:Tok} {os:OsState}
  (S:Sat c ρ σ h) (room:Room A k) (hv:Ce ρ h a v) (hw:Ce ρ h b w) (hr:σ.aeq a b=some r) :
  (∀ {Q:Value→Shared→Prop} {E:Value→Shared→Prop},(∀ tk',Q (.bool r) ⟨h,#[],d,tk',os⟩)→wpAny c.M A (compareOp .Eq v w) Q E ⟨h,#[],d,tk,os⟩) ∧
  ∀ {Q:Value→Shared→Prop} {E:Value→Shared→Prop},(∀ tk',Q (.bool (!r)) ⟨h,#[],d,tk',os⟩)→wpAny c.M A (compareOp .NotEq v w) Q E ⟨h,#[],d,tk,os⟩:=by
 unfold AS.aeq at hr
 (set_option tactic.hygienic true in split at hr)
 ·rename_i x y
  cases hr
  obtain ⟨t,rfl⟩:=hv
  obtain ⟨u,rfl⟩:=hw
  have e1:(x == y)=decide (x=y):=by by_cases q:x=y <;> simp [q]
  have e2:(x != y)=!decide (x=y):=by by_cases q:x=y <;> simp [q]
  exact ⟨fun q=>PySem.P.eq_int (by rw [e1]; exact q _),fun q=>PySem.P.ne_int (by rw [e2]; exact q _)⟩
 ·rename_i x y
  cases hr
  obtain ⟨t,rfl⟩:=hv
  obtain ⟨u,rfl⟩:=hw
  exact ⟨fun q=>SeqAt.RcAt.str_str _ _ _ _ _ _ _ _ (by rw [Afo]; exact q _),fun q=>SeqAt.RcNeAt.str_str _ _ _ _ _ _ _ _ (by rw [Afo]; exact q _)⟩
 ·rename_i y
  cases hr
  cases hv
  obtain ⟨u,rfl⟩:=hw
  exact ⟨fun q=>SeqAt.RcAt.none_str _ _ _ _ _ _ (q _),fun q=>SeqAt.RcNeAt.none_str _ _ _ _ _ _ (q _)⟩
 ·(set_option tactic.hygienic true in split at hr)
  ·rename_i hh
   obtain ⟨rfl,rfl⟩:=hh
   cases hr
   cases hv; cases hw
   obtain ⟨t,ht⟩:=Ae2 c
   have hg:=S.base _ _ ht
   have e1:PyData.eqv (.tuple [.str (sx "feed"),.none]) (.tuple [.str (sx "feed"),.none])=true:=by simp [PyData.eqv,PyData.eqvAll]
   have sh:SeqAt.shaped (.tuple [.str (sx "feed"),.none])=true:=by kernel_rfl
   have rd:=Reads.tuple (xs:=[.str (sx "feed"),.none]) hg rfl rfl (ReadsAll.cons (.str _ _) (.cons .none .nil))
   exact ⟨fun q=>eq_dataH rd rd sh sh room.eqs (by rw [e1]; exact q _),fun q=>ne_dataH rd rd sh sh room.eqs (by rw [e1]; exact q _)⟩
  ·cases hr
 ·obtain ⟨xs,h1,hr⟩:=bind_some hr
  obtain ⟨ys,h2,hr⟩:=bind_some hr
  obtain ⟨p,vs,rfl,g1,g2,g3⟩:=S.list hv h1
  obtain ⟨q,us,rfl,i1,i2,i3⟩:=S.list hw h2
  unfold AS.seqEq at hr
  (set_option tactic.hygienic true in split at hr)
  ·rename_i hne
   cases hr
   have hsz:(vs.toArray.size != us.toArray.size)=true:=by
    rw [List.size_toArray,List.size_toArray,g3.len,i3.len]
    simpa using hne
   have hu:A.units < cLine:=by have:=room.eqs; lia
   exact ⟨fun q=>SeqAt.RcAt.lists_lengths g1 i1 hsz hu _ _ _ _ (q _),fun q=>SeqAt.RcNeAt.lists_lengths g1 i1 hsz hu _ _ _ _ (q _)⟩
  ·(set_option tactic.hygienic true in split at hr)
   ·rename_i l r' hl hr'
    cases hr
    exact ⟨fun q=>ke_eq_ints g1 i1 (Hl g3 hl) (Hl i3 hr') room.eqs (q _),fun q=>ke_ne_ints g1 i1 (Hl g3 hl) (Hl i3 hr') room.eqs (q _)⟩
   ·(set_option tactic.hygienic true in split at hr)
    ·rename_i l r' hl hr'
     cases hr
     obtain ⟨as,ra⟩:=Mu S g3 hl
     obtain ⟨bs,rb⟩:=Mu S i3 hr'
     obtain ⟨o1,a1,a2,n1,a3⟩:=g1
     obtain ⟨o2,b1,b2,n2,b3⟩:=i1
     have e1:PyData.eqv (.list (l.map fun l=>PyData.list (l.map PyData.int))) (.list (r'.map fun l=>PyData.list (l.map PyData.int)))=decide (l=r'):=by rw [PyData.eqv]; exact O8 l r'
     have r1:=Reads.list a1 a2 a3 (by simpa using ra)
     have r2:=Reads.list b1 b2 b3 (by simpa using rb)
     exact ⟨fun q=>eq_dataH r1 r2 (Ij _) (Ij _) room.eqs (by rw [e1]; exact q _),fun q=>ne_dataH r1 r2 (Ij _) (Ij _) room.eqs (by rw [e1]; exact q _)⟩
    ·cases hr
section
noncomputable def isNone?:AVal→Option Bool
 | .none=>some true
 | .any=>none
 | _=>some false
theorem Um {ρ:Pl} {h:Heap}:∀ {av:AVal} {v:Value} {b:Bool},Ce ρ h av v→isNone? av=some b→(v == .none)=b
 | .none,_,_,r,e=>by cases r; cases e; rfl
 | .bool _,_,_,r,e=>by cases r; cases e; rfl
 | .int _,_,_,⟨_,r⟩,e=>by cases r; cases e; rfl
 | .str _,_,_,⟨_,r⟩,e=>by cases r; cases e; rfl
 | .id _,_,_,⟨_,_,r⟩,e=>by cases r; cases e; rfl
 | .base _,_,_,r,e=>by cases r; cases e; rfl
 | .tup _,_,_,⟨_,_,r,_⟩,e=>by cases r; cases e; rfl
 | .flist _,_,_,⟨_,_,r,_⟩,e=>by cases r; cases e; rfl
 | .rng _ _,_,_,⟨_,_,_,_,r,_⟩,e=>by cases r; cases e; rfl
 | .any,_,_,_,e=>by cases e
noncomputable abbrev Cmp:=AS→AVal→AVal→Option Bool
noncomputable def L2 (op:CmpOp) (f:Cmp):Prop:=∀ {c:Cx} {ρ:Pl} {σ:AS} {h:Heap} {a b:AVal} {v w:Value} {r:Bool} {A:Around} {k:Nat} {d:Drawn} {tk:Tok} {os:OsState} {Q:Value→Shared→Prop} {E:Value→Shared→Prop},
 Sat c ρ σ h→Room A k→Ce ρ h a v→Ce ρ h b w→f σ a b=some r→(∀ tk',Q (.bool r) ⟨h,#[],d,tk',os⟩)→wpAny c.M A (compareOp op v w) Q E ⟨h,#[],d,tk,os⟩
noncomputable def cEq:Cmp:=fun σ a b=>σ.aeq a b
noncomputable def cNe:Cmp:=fun σ a b=>(σ.aeq a b).map fun r=>!r
noncomputable def K2 (f:Int→Int→Bool):Cmp:=fun J a b=>match a,b with
 | .int x,.int y=>some (f x y)
 | _,_=>none
noncomputable def cIs:Cmp:=fun J a b=>match b with
 | .none=>isNone? a
 | _=>none
noncomputable def Ff:Cmp:=fun J a b=>match b with
 | .none=>(isNone? a).map fun r=>!r
 | _=>none
noncomputable def AS.ain (σ:AS):AVal→AVal→Option Bool
 | .int x,.tup ys=>(ints? ys).map fun l=>decide (x∈l)
 | .base a,.id i=>if a=542 then (match σ.R i with
  | some (.qdict q)=>some q.isSome
  | _=>none) else none
 | _,_=>none
noncomputable def Ty:Cmp:=fun σ a b=>(σ.ain a b).map fun r=>!r
theorem Du:L2 .Eq cEq:=fun S r hv hw hr q=>(Aop S r hv hw hr).1 q
theorem Fs:L2 .NotEq cNe:=fun S r hv hw hr q=>by
 obtain ⟨b,e1,rfl⟩:=B0 hr
 exact (Aop S r hv hw e1).2 q
theorem P6:L2 .Is cIs:=fun S r hv hw hr q=>by
 unfold cIs at hr
 split at hr
 ·cases hw
  refine is_none ?_
  rw [Um hv hr]; exact q _
 ·cases hr
theorem Fh:L2 .IsNot Ff:=fun S r hv hw hr q=>by
 unfold Ff at hr
 split at hr
 ·cases hw
  obtain ⟨b,e1,rfl⟩:=B0 hr
  refine isNot_none ?_
  rw [Um hv e1]; exact q _
 ·cases hr
theorem Aal {op:CmpOp} {f:Int→Int→Bool} (ho:∀ {prog:Program} {w:World} {A:Around} {E:Value→Shared→Prop} {s:Shared} {a b:Int} {t u:Tok} {Q:Value→Shared→Prop},Q (.bool (f a b)) s→wpAny (model prog w) A (compareOp op (.int a t) (.int b u)) Q E s):L2 op (K2 f):=fun S r hv hw hr q=>by
 unfold K2 at hr
 split at hr
 ·cases hr
  obtain ⟨t,rfl⟩:=hv
  obtain ⟨u,rfl⟩:=hw
  exact ho (q _)
 ·cases hr
theorem Afb:L2 .Lt (K2 fun a b=>decide (a < b)):=Aal fun h=>PySem.P.lt_int h
theorem Ais:L2 .LtE (K2 fun a b=>decide (a≤b)):=Aal fun h=>PySem.P.le_int h
theorem Amw:L2 .Gt (K2 fun a b=>decide (a > b)):=Aal fun h=>PySem.P.gt_int h
theorem Amv:L2 .GtE (K2 fun a b=>decide (a ≥ b)):=Aal fun h=>PySem.P.ge_int h
noncomputable def Kf (f:Cmp) (d1 d2:D):D:=fun m σ=>(d1 m σ).bind fun p=>(d2 m p.2).bind fun q=>(f q.2 p.1 q.1).map fun r=>(.bool r,q.2)
noncomputable def Bs (f:Cmp) (d1 d2:D):B:=fun m σ=>(d1 m σ).bind fun p=>(d2 m p.2).bind fun q=>(f q.2 p.1 q.1).map fun r=>(r,q.2)
noncomputable def Cz (d:D):B:=fun m σ=>(d m σ).bind fun p=>(p.2.truth p.1).map fun b=>(b,p.2)
noncomputable def Gk (b:B):B:=fun m σ=>(b m σ).map fun p=>(!p.1,p.2)
noncomputable def Dg (a b:B):B:=fun m σ=>(a m σ).bind fun p=>if p.1 then b m p.2 else some (false,p.2)
noncomputable def bOr (a b:B):B:=fun m σ=>(a m σ).bind fun p=>if p.1 then some (true,p.2) else b m p.2
noncomputable def Cp (b:Bool):B:=fun _ σ=>some (b,σ)
noncomputable def Ahu (d:D):D:=fun m σ=>(d m σ).bind fun p=>(p.2.truth p.1).map fun b=>(.bool !b,p.2)
noncomputable def Abp (a b:D):D:=fun m σ=>(a m σ).bind fun p=>(p.2.truth p.1).bind fun t=>if t then b m p.2 else some p
noncomputable def dOr (a b:D):D:=fun m σ=>(a m σ).bind fun p=>(p.2.truth p.1).bind fun t=>if t then some p else b m p.2
noncomputable def dIf (t:B) (a b:D):D:=fun m σ=>(t m σ).bind fun p=>if p.1 then a m p.2 else b m p.2
section
variable {k:Nat} {fi:Fi} {pos:Pos}
set_option tactic.hygienic true in
theorem Ej {l r:Expr} {op:CmpOp} {f:Cmp} {d1 d2:D} (hl:Cf k fi l d1) (hr:Cf k fi r d2) (ok:L2 op f) (hm:behindInMarks op r=false):Cf k fi (.Compare l [op] [r] pos) (Kf f d1 d2):=by
 intro c env σ m av σ' hD A ρ h d tk os Q E room S q
 obtain ⟨⟨a,σ₁⟩,h1,h2⟩:=bind_some hD
 obtain ⟨⟨b,σ₂⟩,h3,h4⟩:=bind_some h2
 obtain ⟨t,h5,h6⟩:=B0 h4
 cases h6
 refine wpAny_Compare1 (hl c env σ m a σ₁ h1 A ρ h d tk os _ E room S fun v h₁ tk₁ D=>?_) hm
 obtain ⟨ρ₁,e₁,o₁,S₁,hv⟩:=D
 refine hr c env σ₁ m b σ₂ h3 A ρ₁ h₁ d tk₁ os _ E room (S.next e₁ o₁ S₁) fun w h₂ tk₂ D=>?_
 obtain ⟨ρ₂,e₂,o₂,S₂,hw⟩:=D
 exact ok S₂ room (hv.mono e₂ o₂) hw h5 fun tk₃=>q _ _ _ (.after e₁ o₁ (.after e₂ o₂ (.same (av:=.bool t) S₂ rfl)))
set_option tactic.hygienic true in
theorem A5 {l r:Expr} {op:CmpOp} {f:Cmp} {d1 d2:D} (hl:Cf k fi l d1) (hr:Cf k fi r d2) (ok:L2 op f) (hm:behindInMarks op r=false):Tl k fi (.Compare l [op] [r] pos) (Bs f d1 d2):=by
 intro c env σ m av σ' hD A ρ h d tk os Q E room S q
 obtain ⟨⟨a,σ₁⟩,h1,h2⟩:=bind_some hD
 obtain ⟨⟨b,σ₂⟩,h3,h4⟩:=bind_some h2
 obtain ⟨t,h5,h6⟩:=B0 h4
 cases h6
 refine wpAny_isTrue_Compare1 (hl c env σ m a σ₁ h1 A ρ h d tk os _ E room S fun v h₁ tk₁ D=>?_) hm
 obtain ⟨ρ₁,e₁,o₁,S₁,hv⟩:=D
 refine hr c env σ₁ m b σ₂ h3 A ρ₁ h₁ d tk₁ os _ E room (S.next e₁ o₁ S₁) fun w h₂ tk₂ D=>?_
 obtain ⟨ρ₂,e₂,o₂,S₂,hw⟩:=D
 exact ok S₂ room (hv.mono e₂ o₂) hw h5 fun tk₃=>wpAny_truthy_bool (q _ _ _ (e₁.trans e₂ o₁.live) (o₁.trans e₁ o₂) S₂)
theorem Bx {e:Expr} {dd:D} (he:Cf k fi e dd) (ht:∀ (env:Env) (whole:Sem Value),isTrue e env whole=(do let v←whole; standAt e.pos; holding [v] (truthy v)):=by intro _ _; rfl):Tl k fi e (Cz dd):=by
 intro c env σ m b σ' hD A ρ h d tk os Q E room S q
 obtain ⟨⟨a,σ₁⟩,h1,h2⟩:=bind_some hD
 obtain ⟨t,h5,h6⟩:=B0 h2
 cases h6
 refine wpAny_isTrue_value (he c env σ m a σ₁ h1 A ρ h d tk os _ E room S fun v h₁ tk₁ D=>?_) (ht env _)
 obtain ⟨ρ₁,e₁,o₁,S₁,hv⟩:=D
 exact Aay S₁ hv h5 fun tk₂=>q _ _ _ e₁ o₁ S₁
theorem E5 {e:Expr} {bb:B} (he:Tl k fi e bb):Tl k fi (.UnaryOp .Not e pos) (Gk bb):=by
 intro c env σ m b σ' hD A ρ h d tk os Q E room S q
 obtain ⟨⟨t,σ₁⟩,h1,h2⟩:=B0 hD
 cases h2
 exact wpAny_isTrue_Not (he c env σ m t σ₁ h1 A ρ h d tk os _ E room S fun ρ₁ h₁ tk₁ e₁ o₁ S₁=>q _ _ _ e₁ o₁ S₁)
noncomputable def Ac8 (k:Nat) (fi:Fi) (op:BoolOp) (es:List Expr) (bb:B):Prop:=∀ c env σ m b σ',bb m σ=some (b,σ') →
 ∀ (A:Around) (ρ:Pl) (h:Heap) (d:Drawn) (tk:Tok) (os:OsState) (Q:Bool→Shared→Prop) (E:Value→Shared→Prop),Room A k→St c ρ fi σ env m h →
  (∀ ρ' h' tk',Ext ρ ρ' h→Old ρ h h'→Sat c ρ' σ' h'→Q b ⟨h',#[],d,tk',os⟩)→wpAny c.M A (allTrue op es env) Q E ⟨h,#[],d,tk,os⟩
theorem Co:Ac8 k fi .And [] (Cp true):=by
 intro c env σ m b σ' hD A ρ h d tk os Q E room S q
 cases hD
 exact wpAny_allTrue_And_nil (q _ _ _ (Ext.refl _ _) (Old.refl _ _) S.sat)
theorem Fe:Ac8 k fi .Or [] (Cp false):=by
 intro c env σ m b σ' hD A ρ h d tk os Q E room S q
 cases hD
 exact wpAny_allTrue_Or_nil (q _ _ _ (Ext.refl _ _) (Old.refl _ _) S.sat)
set_option tactic.hygienic true in
theorem Bz {e:Expr} {es:List Expr} {a b:B} (ha:Tl k fi e a) (hb:Ac8 k fi .And es b):Ac8 k fi .And (e :: es) (Dg a b):=by
 intro c env σ m t σ' hD A ρ h d tk os Q E room S q
 obtain ⟨⟨x,σ₁⟩,h1,h2⟩:=bind_some hD
 refine wpAny_allTrue_And_cons (ha c env σ m x σ₁ h1 A ρ h d tk os _ E room S fun ρ₁ h₁ tk₁ e₁ o₁ S₁=>?_)
 cases x with
 | true=>exact hb c env σ₁ m t σ' h2 A ρ₁ h₁ d tk₁ os Q E room (S.next e₁ o₁ S₁) fun ρ₂ h₂ tk₂ e₂ o₂ S₂=>q _ _ _ (e₁.trans e₂ o₁.live) (o₁.trans e₁ o₂) S₂
 | false=>cases h2; exact q _ _ _ e₁ o₁ S₁
set_option tactic.hygienic true in
theorem Ek {e:Expr} {es:List Expr} {a b:B} (ha:Tl k fi e a) (hb:Ac8 k fi .Or es b):Ac8 k fi .Or (e :: es) (bOr a b):=by
 intro c env σ m t σ' hD A ρ h d tk os Q E room S q
 obtain ⟨⟨x,σ₁⟩,h1,h2⟩:=bind_some hD
 refine wpAny_allTrue_Or_cons (ha c env σ m x σ₁ h1 A ρ h d tk os _ E room S fun ρ₁ h₁ tk₁ e₁ o₁ S₁=>?_)
 cases x with
 | false=>exact hb c env σ₁ m t σ' h2 A ρ₁ h₁ d tk₁ os Q E room (S.next e₁ o₁ S₁) fun ρ₂ h₂ tk₂ e₂ o₂ S₂=>q _ _ _ (e₁.trans e₂ o₁.live) (o₁.trans e₁ o₂) S₂
 | true=>cases h2; exact q _ _ _ e₁ o₁ S₁
theorem Cd {op:BoolOp} {es:List Expr} {bb:B} (h:Ac8 k fi op es bb):Tl k fi (.BoolOp op es pos) bb:=by
 intro c env σ m b σ' hD A ρ h' d tk os Q E room S q
 exact wpAny_isTrue_BoolOp (h c env σ m b σ' hD A ρ h' d tk os Q E room S q)
theorem Aa7 {e:Expr} {dd:D} (he:Cf k fi e dd):Cf k fi (.UnaryOp .Not e pos) (Ahu dd):=by
 intro c env σ m av σ' hD A ρ h d tk os Q E room S q
 obtain ⟨⟨a,σ₁⟩,h1,h2⟩:=bind_some hD
 obtain ⟨t,h5,h6⟩:=B0 h2
 cases h6
 refine wpAny_UnaryOp (he c env σ m a σ₁ h1 A ρ h d tk os _ E room S fun v h₁ tk₁ D=>?_)
 obtain ⟨ρ₁,e₁,o₁,S₁,hv⟩:=D
 exact not_value (Aay S₁ hv h5 fun tk₂=>q _ _ _ (.after e₁ o₁ (.same (av:=.bool !t) S₁ rfl)))
noncomputable def Afz (k:Nat) (fi:Fi) (pos:Pos) (op:BoolOp) (es:List Expr) (D:D):Prop:=∀ c env σ m av σ',D m σ=some (av,σ')→Ev c k fi env σ m (boolOp pos op (evalEach es env)) av σ'
theorem Kc {op:BoolOp} {e:Expr} {dd:D} (he:Cf k fi e dd):Afz k fi pos op [e] dd:=fun c env σ m av σ' hD=>he c env σ m av σ' hD
set_option tactic.hygienic true in
theorem Mj {e e2:Expr} {es:List Expr} {a b:D} (ha:Cf k fi e a) (hb:Afz k fi pos .And (e2 :: es) b):Afz k fi pos .And (e :: e2 :: es) (Abp a b):=by
 intro c env σ m av σ' hD A ρ h d tk os Q E room S q
 obtain ⟨⟨x,σ₁⟩,h1,h2⟩:=bind_some hD
 obtain ⟨t,h3,h4⟩:=bind_some h2
 show wpAny c.M A (do
  let v←eval e env
  standAt pos
  let t←holding [v] (truthy v)
  match BoolOp.And,t with
  | .And,false | .Or,true=>pure v
  | _,_=>boolOp pos .And (evalEach (e2 :: es) env)) Q E _
 refine wpAny_bind (ha c env σ m x σ₁ h1 A ρ h d tk os _ E room S fun v h₁ tk₁ D=>wpAny_bind (wpAny_standAt (wpAny_bind (wpAny_holding ?_))))
 obtain ⟨ρ₁,e₁,o₁,S₁,hv⟩:=D
 refine Aay S₁ hv h3 fun tk₂=>?_
 cases t with
 | true=>exact hb c env σ₁ m av σ' h4 A ρ₁ h₁ d tk₂ os Q E room (S.next e₁ o₁ S₁) fun v h₂ tk₂ D=>q _ _ _ (.after e₁ o₁ D)
 | false=>cases h4; exact wpAny_pure (q _ _ _ (.after e₁ o₁ (.same S₁ hv)))
set_option tactic.hygienic true in
theorem Aeu {e e2:Expr} {es:List Expr} {a b:D} (ha:Cf k fi e a) (hb:Afz k fi pos .Or (e2 :: es) b):Afz k fi pos .Or (e :: e2 :: es) (dOr a b):=by
 intro c env σ m av σ' hD A ρ h d tk os Q E room S q
 obtain ⟨⟨x,σ₁⟩,h1,h2⟩:=bind_some hD
 obtain ⟨t,h3,h4⟩:=bind_some h2
 show wpAny c.M A (do
  let v←eval e env
  standAt pos
  let t←holding [v] (truthy v)
  match BoolOp.Or,t with
  | .And,false | .Or,true=>pure v
  | _,_=>boolOp pos .Or (evalEach (e2 :: es) env)) Q E _
 refine wpAny_bind (ha c env σ m x σ₁ h1 A ρ h d tk os _ E room S fun v h₁ tk₁ D=>wpAny_bind (wpAny_standAt (wpAny_bind (wpAny_holding ?_))))
 obtain ⟨ρ₁,e₁,o₁,S₁,hv⟩:=D
 refine Aay S₁ hv h3 fun tk₂=>?_
 cases t with
 | false=>exact hb c env σ₁ m av σ' h4 A ρ₁ h₁ d tk₂ os Q E room (S.next e₁ o₁ S₁) fun v h₂ tk₂ D=>q _ _ _ (.after e₁ o₁ D)
 | true=>cases h4; exact wpAny_pure (q _ _ _ (.after e₁ o₁ (.same S₁ hv)))
theorem Gy {op:BoolOp} {es:List Expr} {dd:D} (h:Afz k fi pos op es dd):Cf k fi (.BoolOp op es pos) dd:=by
 intro c env σ m av σ' hD A ρ h' d tk os Q E room S q
 rw [arm_eval_BoolOp]
 exact h c env σ m av σ' hD A ρ h' d tk os Q E room S q
set_option tactic.hygienic true in
theorem K1 {t x y:Expr} {bb:B} {a b:D} (ht:Tl k fi t bb) (ha:Cf k fi x a) (hb:Cf k fi y b):Cf k fi (.IfExp t x y pos) (dIf bb a b):=by
 intro c env σ m av σ' hD A ρ h d tk os Q E room S q
 obtain ⟨⟨x,σ₁⟩,h1,h2⟩:=bind_some hD
 refine wpAny_IfExp (ht c env σ m x σ₁ h1 A ρ h d tk os _ E room S fun ρ₁ h₁ tk₁ e₁ o₁ S₁=>?_)
 cases x with
 | true=>exact ha c env σ₁ m av σ' h2 A ρ₁ h₁ d tk₁ os Q E room (S.next e₁ o₁ S₁) fun v h₂ tk₂ D=>q _ _ _ (.after e₁ o₁ D)
 | false=>exact hb c env σ₁ m av σ' h2 A ρ₁ h₁ d tk₁ os Q E room (S.next e₁ o₁ S₁) fun v h₂ tk₂ D=>q _ _ _ (.after e₁ o₁ D)
end
end
theorem Aar {c:Cx} {h:Heap} (hb:∀ b o,c.hB.get? b=some o→h.get? b=some o):(U6 c.w).is h Acm 542:=by
 obtain ⟨t,ht⟩:=Ae2 c
 exact ⟨_,_,_,hb _ _ ht,rfl,rfl,.cons (by show Agq (some (sx "feed")) (.str (sx "feed") t)=true; simp [Agq,Value.isStrOf]) (.cons rfl .nil)⟩
theorem U7 {A:Around} {k:Nat} (r:Room A k) (w:World):(U6 w).room A.in1:=tupleKind_room_in1 (by have:=r.un; show A.units + 1 < 9900; lia)
theorem Nu {a:Nat} (h:602≤a):((a:Addr) == sysModules)=false:=by
 refine beq_eq_false_iff_ne.mpr fun e=>?_
 have e':@Eq Nat a sysModules:=e
 have hs:@LT.lt Nat _ sysModules 602:=by decide
 rw [← e'] at hs
 lia
noncomputable def Lm:Option Value→List (List (Option Str)×Addr×Value)
 | none=>[]
 | some v=>[(Acm,542,v)]
inductive QdEx (c:Cx) (ρ:Pl) (h:Heap) (i:Id) (q:Option AVal) (v:Value):Prop
 | mk (p:Nat×Nat) (u:Option Value) (a:ρ.pl i=some p) (b:p.2=p.1) (d:v=.ref p.1) (e:602≤p.1) (f:h.DictOfH (U6 c.w) p.1 (Lm u)) (g:u.isSome=q.isSome) (r:∀ a b,q=some a→u=some b→Ce ρ h a b):QdEx c ρ h i q v
theorem P9 {c:Cx} {ρ:Pl} {σ:AS} {h:Heap} (S:Sat c ρ σ h) {i:Id} {q:Option AVal} (hi:σ.R i=some (.qdict q)) {v:Value} (hv:Ce ρ h (.id i) v) :
  QdEx c ρ h i q v:=by
 obtain ⟨p,hp,rfl⟩:=hv
 obtain ⟨p',hp',ho⟩:=S.objs i _ hi
 obtain rfl:p=p':=Option.some.inj (hp.symm.trans hp')
 have hlo:=(S.lo i p hp).1.1
 cases q with
 | none =>
  obtain ⟨e,n,hd⟩:=ho
  exact ⟨p,none,hp,e,rfl,hlo,⟨_,_,_,hd,⟨rfl,rfl,rfl⟩,rfl,rfl,fun J hx=>(by cases hx),List.nodup_nil⟩,rfl,fun J J e=>by cases e⟩
 | some q =>
  obtain ⟨e,n,w,hd,hr⟩:=ho
  refine ⟨p,some w,hp,e,rfl,hlo,⟨_,_,_,hd,⟨rfl,rfl,rfl⟩,rfl,rfl,fun x hx=>?_,by simp [Lm]⟩,rfl,fun a b e1 e2=>by cases e1; cases e2; exact hr⟩
  simp only [Lm,List.mem_singleton] at hx
  subst hx
  exact Aar S.base
theorem Ana {c:Cx} {ρ:Pl} {σ:AS} {h:Heap} {a b:AVal} {v w:Value} {r:Bool} {A:Around} {k:Nat} {d:Drawn} {tk:Tok} {os:OsState}
  (S:Sat c ρ σ h) (room:Room A k) (hv:Ce ρ h a v) (hw:Ce ρ h b w) (hr:σ.ain a b=some r) :
  (∀ {Q:Value→Shared→Prop} {E:Value→Shared→Prop},(∀ tk',Q (.bool r) ⟨h,#[],d,tk',os⟩)→wpAny c.M A (compareOp .In v w) Q E ⟨h,#[],d,tk,os⟩) ∧
  ∀ {Q:Value→Shared→Prop} {E:Value→Shared→Prop},(∀ tk',Q (.bool (!r)) ⟨h,#[],d,tk',os⟩)→wpAny c.M A (compareOp .NotIn v w) Q E ⟨h,#[],d,tk,os⟩:=by
 unfold AS.ain at hr
 (set_option tactic.hygienic true in split at hr)
 ·rename_i x ys
  obtain ⟨l,hl,rfl⟩:=B0 hr
  obtain ⟨t,rfl⟩:=hv
  obtain ⟨p,us,rfl,_,ht,hu⟩:=hw
  have ia:=Hl hu hl
  let e:Value→Bool:=fun y=>match y with | .int i _=>i == x | _=>false
  have he:∀ y,y∈us.toArray→SeqAt.EqAt A.in1 (⟨h,#[],d,tk,os⟩:Shared) y (.int x t) (e y):=by
   intro y hy
   have hy':y∈us:=by simpa using hy
   clear hr hl hu ht hy
   induction ia with
   | nil=>cases hy'
   | cons n u _ ih =>
    rcases List.mem_cons.mp hy' with rfl | hy'
    ·exact SeqAt.EqAt.int_int _ _ _ _
    ·exact ih hy'
  have any:us.toArray.any e=decide (x∈l):=by
   rw [List.any_toArray]
   clear hr hl hu ht he
   induction ia with
   | nil=>rfl
   | cons n u _ ih =>
    rw [List.any_cons,ih]
    by_cases q:n=x
    ·subst q; simp [e]
    ·simp [e,q,Ne.symm q]
  exact ⟨fun q=>SeqAt.in_tupleAt e ht he (by rw [any]; exact q _),fun q=>SeqAt.notIn_tupleAt e ht he (by rw [any]; exact q _)⟩
 ·rename_i a i
  (set_option tactic.hygienic true in split at hr)
  ·rename_i ha
   subst ha
   cases hv
   (set_option tactic.hygienic true in split at hr)
   ·rename_i q hi
    cases hr
    obtain ⟨p,u,hp,e,rfl,hlo,hd,hu,_⟩:=P9 S hi hw
    have key:(atKey (Lm u) Acm).isSome=q.isSome:=by
     rw [← hu]; cases u <;> simp [Lm,atKey]
    exact ⟨fun z=>wpAny_in_heap (U7 room c.w) (Aar S.base) (Nu hlo) hd (by rw [key]; exact z _),
     fun z=>wpAny_notIn_heap (U7 room c.w) (Aar S.base) (Nu hlo) hd (by rw [key]; exact z _)⟩
   ·cases hr
  ·cases hr
 ·cases hr
theorem Ack:L2 .NotIn Ty:=fun S r hv hw hr q=>by
 obtain ⟨b,e1,rfl⟩:=B0 hr
 exact (Ana S r hv hw e1).2 q
section
noncomputable def Fv (f:Int→Int→Option Int) (d1 d2:D):D:=fun m σ=>(d1 m σ).bind fun p=>(d2 m p.2).bind fun q=>match p.1,q.1 with
 | .int x,.int y=>(f x y).map fun z=>(.int z,q.2)
 | _,_=>none
noncomputable def Aft (op:Operator) (f:Int→Int→Option Int):Prop:=∀ {prog:Program} {w:World} {A:Around} {E:Value→Shared→Prop} {s:Shared} {a b z:Int} {t u:Tok},f a b=some z →
 (∀ {Q:Value→Shared→Prop},(∀ tk,Q (.int z tk) { s with toks:=s.toks + 1 })→wpAny (model prog w) A (binaryOp op (.int a t) (.int b u)) Q E s) ∧
 ∀ {Q:Value→Shared→Prop},(∀ tk,Q (.int z tk) { s with toks:=s.toks + 1 })→wpAny (model prog w) A (inplaceOp op (.int a t) (.int b u)) Q E s
noncomputable def Pb:Int→Int→Option Int:=fun a b=>some (a + b)
noncomputable def Agg:Int→Int→Option Int:=fun a b=>some (a - b)
noncomputable def K5:Int→Int→Option Int:=fun a b=>if b=0 then none else some (a.fmod b)
theorem Li:Aft .Add Pb:=fun e=>by cases e; exact ⟨fun q=>PySem.P.add_int (q _),fun q=>PySem.P.iadd_int (q _)⟩
theorem Aam:Aft .Sub Agg:=fun e=>by cases e; exact ⟨fun q=>PySem.P.sub_int (q _),fun q=>PySem.P.isub_int (q _)⟩
theorem Oo:Aft .Mod K5:=fun e=>by
 unfold K5 at e
 (set_option tactic.hygienic true in split at e)
 ·cases e
 ·rename_i hb
  cases e; exact ⟨fun q=>mod_int' hb (q _),fun q=>imod_int hb (q _)⟩
section
variable {k:Nat} {fi:Fi} {pos:Pos}
theorem Ec {l r:Expr} {op:Operator} {f:Int→Int→Option Int} {d1 d2:D} (hl:Cf k fi l d1) (hr:Cf k fi r d2) (ok:Aft op f):Cf k fi (.BinOp l op r pos) (Fv f d1 d2):=by
 intro c env σ m av σ' hD A ρ h d tk os Q E room S q
 obtain ⟨⟨a,σ₁⟩,h1,h2⟩:=bind_some hD
 obtain ⟨⟨b,σ₂⟩,h3,h4⟩:=bind_some h2
 refine wpAny_BinOp (hl c env σ m a σ₁ h1 A ρ h d tk os _ E room S fun v h₁ tk₁ D=>?_)
 obtain ⟨ρ₁,e₁,o₁,S₁,hv⟩:=D
 refine hr c env σ₁ m b σ₂ h3 A ρ₁ h₁ d tk₁ os _ E room (S.next e₁ o₁ S₁) fun w h₂ tk₂ D=>?_
 obtain ⟨ρ₂,e₂,o₂,S₂,hw⟩:=D
 dsimp only at h4
 (set_option tactic.hygienic true in split at h4)
 ·obtain ⟨z,hz,e⟩:=B0 h4
  cases e
  obtain ⟨t,rfl⟩:=hv
  obtain ⟨u,rfl⟩:=hw
  exact (ok hz).1 fun tk=>q _ _ _ (.after e₁ o₁ (.after e₂ o₂ (.same (av:=.int z) S₂ ⟨tk,rfl⟩)))
 ·cases h4
theorem Aa6 {e:Expr} {dd:D} (he:Cf k fi e dd):Cf k fi (.UnaryOp .USub e pos) (fun m σ=>(dd m σ).bind fun p=>match p.1 with
  | .int x=>some (.int (-x),p.2)
  | _=>none):=by
 intro c env σ m av σ' hD A ρ h d tk os Q E room S q
 obtain ⟨⟨a,σ₁⟩,h1,h2⟩:=bind_some hD
 refine wpAny_UnaryOp (he c env σ m a σ₁ h1 A ρ h d tk os _ E room S fun v h₁ tk₁ D=>?_)
 obtain ⟨ρ₁,e₁,o₁,S₁,hv⟩:=D
 dsimp only at h2
 (set_option tactic.hygienic true in split at h2)
 ·rename_i x
  cases h2
  obtain ⟨t,rfl⟩:=hv
  exact PySem.P.neg_int (q _ _ _ (.after e₁ o₁ (.same (av:=.int (-x)) S₁ ⟨_,rfl⟩)))
 ·cases h2
end
noncomputable abbrev Ds:=B1→AS→Option (List AVal×AS)
noncomputable def Hg (k:Nat) (fi:Fi) (pos:Pos) (es:List Expr) (Ds:Ds):Prop:=∀ c env σ m avs σ',Ds m σ=some (avs,σ') →
 ∀ (A:Around) (ρ:Pl) (h:Heap) (d:Drawn) (tk:Tok) (os:OsState) (Q:List Value→Shared→Prop) (E:Value→Shared→Prop),Room A k→St c ρ fi σ env m h →
  (∀ vs ρ' h' tk',Ext ρ ρ' h→Old ρ h h'→Sat c ρ' σ' h'→Bm ρ' h' avs vs→Q vs ⟨h',#[],d,tk',os⟩)→wpAny c.M A (spliced (backTo pos (starEach es env))) Q E ⟨h,#[],d,tk,os⟩
noncomputable def Ap:Ds:=fun _ σ=>some ([],σ)
noncomputable def Af (a:D) (b:Ds):Ds:=fun m σ=>(a m σ).bind fun p=>(b m p.2).map fun q=>(p.1 :: q.1,q.2)
section
variable {k:Nat} {fi:Fi} {pos:Pos}
theorem Ai:Hg k fi pos [] Ap:=by
 intro c env σ m avs σ' hD A ρ h d tk os Q E room S q
 cases hD
 exact wpAny_items_nil (q _ _ _ _ (Ext.refl _ _) (Old.refl _ _) S.sat rfl)
set_option tactic.hygienic true in
theorem Tn {e:Expr} {es:List Expr} {a:D} {b:Ds} (he:Cf k fi e a) (hes:Hg k fi pos es b) (hst:∀ env:Env,starEach (e :: es) env=(false,eval e env) :: starEach es env:=by intro _; rfl) :
  Hg k fi pos (e :: es) (Af a b):=by
 intro c env σ m avs σ' hD A ρ h d tk os Q E room S q
 obtain ⟨⟨a,σ₁⟩,h1,h2⟩:=bind_some hD
 obtain ⟨⟨bs,σ₂⟩,h3,h4⟩:=B0 h2
 cases h4
 refine wpAny_items_cons (he c env σ m a σ₁ h1 A ρ h d tk os _ E room S fun v h₁ tk₁ D=>?_) (hst env)
 obtain ⟨ρ₁,e₁,o₁,S₁,hv⟩:=D
 refine hes c env σ₁ m bs σ₂ h3 A ρ₁ h₁ d tk₁ os _ E room (S.next e₁ o₁ S₁) fun vs ρ₂ h₂ tk₂ e₂ o₂ S₂ hvs=>?_
 exact q _ _ _ _ (e₁.trans e₂ o₁.live) (o₁.trans e₁ o₂) S₂ ⟨v,vs,rfl,hv.mono e₂ o₂,hvs⟩
end
theorem Cc (h:Heap):h.get? h.objs.size=none:=Heap.get?_none_of_le (Nat.le_refl _)
theorem Sat.newList {c:Cx} {ρ:Pl} {σ:AS} {h:Heap} (S:Sat c ρ σ h) {avs:List AVal} {vs:List Value} {n:Nat} (r:Bm ρ h avs vs) (hl:avs.length≤1000000) :
  Ends c ρ h (.flist avs) σ (.ref h.objs.size) (h.push ⟨.type "list",none,.seq vs.toArray n,#[]⟩):=by
 have hk:=C5.push h ⟨.type "list",none,.seq vs.toArray n,#[]⟩
 exact .kept S hk ⟨_,vs,rfl,S.fresh_notMut (Cc h),⟨_,Heap.get?_push_size _ rfl,rfl,n,rfl⟩,by rw [r.len]; exact hl,r.mono (Ext.refl _ _) hk.old⟩
theorem Sat.newTup {c:Cx} {ρ:Pl} {σ:AS} {h:Heap} (S:Sat c ρ σ h) {avs:List AVal} {vs:List Value} {n:Nat} (r:Bm ρ h avs vs) :
  Ends c ρ h (.tup avs) σ (.ref h.objs.size) (h.push ⟨.type "tuple",none,.seq vs.toArray n,#[]⟩):=by
 have hk:=C5.push h ⟨.type "tuple",none,.seq vs.toArray n,#[]⟩
 exact .kept S hk ⟨_,vs,rfl,S.fresh_notMut (Cc h),⟨_,Heap.get?_push_size _ rfl,rfl,n,rfl⟩,r.mono (Ext.refl _ _) hk.old⟩
noncomputable abbrev Nm:=B1→AS→Option Id
noncomputable def Mg (b:Ds):D:=fun m σ=>(b m σ).bind fun p=>if p.1.length≤1000 then some (.tup p.1,p.2) else none
noncomputable def Db (b:Ds):D:=fun m σ=>(b m σ).bind fun p=>if p.1.length≤1000 then some (.flist p.1,p.2) else none
noncomputable def AS.born (σ:AS) (i:Id) (o:AObj):Option AS:=match σ.R i with
 | none=>some (σ.add i o)
 | some _=>none
noncomputable def Eg (nm:Nm) (b:Ds):D:=fun m σ=>(b m σ).bind fun p=>if p.1.length≤1000 then (nm m p.2).bind fun i=>(p.2.born i (.list p.1)).map fun σ'=>(.id i,σ') else none
noncomputable def T3 (nm:Nm):D:=fun m σ=>(nm m σ).bind fun i=>(σ.born i (.qdict none)).map fun σ'=>(.id i,σ')
theorem Kd {σ σ':AS} {i:Id} {o:AObj} (h:σ.born i o=some σ'):σ.R i=none∧σ'=σ.add i o:=by
 unfold AS.born at h
 (set_option tactic.hygienic true in split at h)
 ·rename_i e; cases h; exact ⟨e,rfl⟩
 ·cases h
section
variable {k:Nat} {fi:Fi} {pos:Pos}
theorem E6 {es:List Expr} {kd:Nat} {b:Ds} (h:Hg k fi pos es b):Cf k fi (.Tuple es kd pos) (Mg b):=by
 intro c env σ m av σ' hD A ρ hh d tk os Q E room S q
 obtain ⟨⟨avs,σ₁⟩,h1,h2⟩:=bind_some hD
 dsimp only at h2
 (set_option tactic.hygienic true in split at h2)
 ·rename_i hlen
  cases h2
  refine wpAny_Tuple (h c env σ m avs _ h1 A ρ hh d tk os _ E room S fun vs ρ₁ h₁ tk₁ e₁ o₁ S₁ r=>⟨?_,q _ _ _ (.after e₁ o₁ (S₁.newTup r))⟩)
  rw [r.len,sizeLine_eq]; lia
 ·cases h2
theorem B9 {es:List Expr} {b:Ds} (h:Hg k fi pos es b):Cf k fi (.List es pos) (Db b):=by
 intro c env σ m av σ' hD A ρ hh d tk os Q E room S q
 obtain ⟨⟨avs,σ₁⟩,h1,h2⟩:=bind_some hD
 dsimp only at h2
 (set_option tactic.hygienic true in split at h2)
 ·rename_i hlen
  cases h2
  refine wpAny_List (h c env σ m avs _ h1 A ρ hh d tk os _ E room S fun vs ρ₁ h₁ tk₁ e₁ o₁ S₁ r=>⟨?_,q _ _ _ (.after e₁ o₁ (S₁.newList r (by lia)))⟩)
  rw [r.len,sizeLine_eq]; lia
 ·cases h2
theorem Dz {es:List Expr} {b:Ds} {nm:Nm} (h:Hg k fi pos es b):Cf k fi (.List es pos) (Eg nm b):=by
 intro c env σ m av σ' hD A ρ hh d tk os Q E room S q
 obtain ⟨⟨avs,σ₁⟩,h1,h2⟩:=bind_some hD
 dsimp only at h2
 (set_option tactic.hygienic true in split at h2)
 ·rename_i hlen
  obtain ⟨i,h3,h4⟩:=bind_some h2
  obtain ⟨σ₂,h5,h6⟩:=B0 h4
  cases h6
  obtain ⟨h7,rfl⟩:=Kd h5
  refine wpAny_List (h c env σ m avs _ h1 A ρ hh d tk os _ E room S fun vs ρ₁ h₁ tk₁ e₁ o₁ S₁ r=>⟨?_,q _ _ _ (.after e₁ o₁ ?_)⟩)
  ·rw [r.len,sizeLine_eq]; lia
  ·have hk:=C5.push h₁ ⟨.type "list",none,.seq vs.toArray 0,#[]⟩
   have hf:=Cc h₁
   have e₂:Ext ρ₁ (Fk ρ₁ i (h₁.objs.size,h₁.objs.size)) h₁:=by
    have hne:∀ j q,ρ₁.pl j=some q→j≠i:=fun j q e z=>by rw [z,S₁.free h7] at e; cases e
    have hput:∀ a:Nat,(Fk ρ₁ i (h₁.objs.size,h₁.objs.size)).Put a→ρ₁.Put a∨h₁.get? a=none:=by
     rintro a ⟨j,q,e,hm⟩
     by_cases hj:j=i
     ·subst hj; rw [B8] at e; cases e
      rcases hm with rfl | rfl <;> exact .inr hf
     ·rw [Cn _ _ hj] at e; exact .inl ⟨j,q,e,hm⟩
    exact ⟨fun j q e=>by rw [Cn _ _ (hne j q e)]; exact e,hput,fun a q=>q.elim (fun q=>(hput a q).imp .inl id) fun q=>.inl (.inr q),fun _ q=>q⟩
   obtain ⟨S₂,_⟩:=S₁.new h7 hk (p:=(h₁.objs.size,h₁.objs.size)) ⟨hf,S₁.big⟩ ⟨hf,S₁.big⟩ (o:=.list avs)
    ⟨rfl,vs,⟨0,Heap.get?_push_size _ rfl⟩,by rw [r.len]; lia,r.mono e₂ hk.old⟩
   exact ⟨_,e₂,hk.old,S₂,_,B8 ..,rfl⟩
 ·cases h2
theorem Tm {nm:Nm}:Cf k fi (.Dict [] [] pos) (T3 nm):=by
 intro c env σ m av σ' hD A ρ h₁ d tk os Q E room S₁ q
 obtain ⟨i,h3,h4⟩:=bind_some hD
 obtain ⟨σ₂,h5,h6⟩:=B0 h4
 cases h6
 obtain ⟨h7,rfl⟩:=Kd h5
 refine wpAny_Dict_empty (q _ _ _ ?_)
 have S₁:=S₁.sat
 have hk:=C5.push h₁ ⟨.type "dict",none,.dict #[] 0,#[]⟩
 have hf:=Cc h₁
 obtain ⟨S₂,e₂⟩:=S₁.new h7 hk (p:=(h₁.objs.size,h₁.objs.size)) ⟨hf,S₁.big⟩ ⟨hf,S₁.big⟩ (o:=.qdict none) ⟨rfl,0,Heap.get?_push_size _ rfl⟩
 exact ⟨_,e₂,hk.old,S₂,_,B8 ..,rfl⟩
end
end
noncomputable def Hh (xs:List AVal) (n:Int):Option AVal :=
 if 0≤n then (if n < 1000000 then xs[n.toNat]? else none) else if -(xs.length:Int)≤n then xs[(n + xs.length).toNat]? else none
noncomputable def AS.item (σ:AS):AVal→AVal→Option AVal
 | .tup xs,.int n=>if 0≤n∧n < 1000 then xs[n.toNat]? else none
 | o,.int n=>(σ.lst o).bind fun xs=>Hh xs n
 | .id i,.str s=>match σ.R i with
  | some (.sdict es)=>es.lookup s
  | _=>none
 | .id i,.base a=>if a=542 then (match σ.R i with
  | some (.qdict q)=>q
  | _=>none) else none
 | _,_=>none
theorem Bm.get {ρ:Pl} {h:Heap}:∀ {xs:List AVal} {vs:List Value} {n:Nat} {x:AVal},Bm ρ h xs vs→xs[n]?=some x→∃ v,vs[n]?=some v∧Ce ρ h x v
 | [],_,_,_,_,e=>by cases e
 | _ :: _,_,0,_,⟨v,r,e1,h1,_⟩,e=>by subst e1; cases e; exact ⟨v,rfl,h1⟩
 | _ :: _,_,n + 1,_,⟨v,r,e1,_,h2⟩,e=>by
  subst e1
  obtain ⟨v',h3,h4⟩:=Bm.get h2 (n:=n) (by simpa using e)
  exact ⟨v',by simpa using h3,h4⟩
inductive SdEx (c:Cx) (ρ:Pl) (h:Heap) (i:Id) (es:List (String×AVal)) (v:Value):Prop
 | mk (p:Nat×Nat) (kvs:List (Str×Value)) (a:ρ.pl i=some p) (b:p.2=p.1) (d:v=.ref p.1) (e:602≤p.1) (f:h.DictOf (strKind pw c.w) p.1 kvs) (g:kvs.map (·.1)=es.map (fun e=>sx e.1)) (r:Bm ρ h (es.map (·.2)) (kvs.map (·.2))):SdEx c ρ h i es v
theorem Acr {c:Cx} {ρ:Pl} {σ:AS} {h:Heap} (S:Sat c ρ σ h) {i:Id} {es:List (String×AVal)} (hi:σ.R i=some (.sdict es)) {v:Value} (hv:Ce ρ h (.id i) v) :
  SdEx c ρ h i es v:=by
 obtain ⟨p,hp,rfl⟩:=hv
 obtain ⟨p',hp',e,kvs,h1,h2,h3⟩:=S.objs i _ hi
 obtain rfl:p=p':=Option.some.inj (hp.symm.trans hp')
 exact ⟨p,kvs,hp,e,rfl,(S.lo i p hp).1.1,h1,h2,h3⟩
theorem Px {ρ:Pl} {h:Heap}:∀ {es:List (String×AVal)} {kvs:List (Str×Value)} {s:String} {x:AVal},kvs.map (·.1)=es.map (fun e=>sx e.1)→Bm ρ h (es.map (·.2)) (kvs.map (·.2))→es.lookup s=some x →
  ∃ v,valueAt kvs (sx s)=some v∧Ce ρ h x v
 | [],_,_,_,_,_,e=>by cases e
 | (k,a) :: es,[],_,_,e1,_,_=>by cases e1
 | (k,a) :: es,(k',v) :: kvs,s,x,e1,⟨v',r,e2,h1,h2⟩,e=>by
  simp only [List.map_cons,List.cons.injEq] at e1 e2
  obtain ⟨rfl,e1⟩:=e1
  obtain ⟨rfl,rfl⟩:=e2
  rw [List.lookup_cons] at e
  by_cases q:s=k
  ·subst q
   simp only [beq_self_eq_true] at e
   cases e
   exact ⟨v,by simp [valueAt],h1⟩
  ·have q':(s == k)=false:=by simpa using q
   rw [q'] at e
   obtain ⟨w,h3,h4⟩:=Px e1 h2 e
   refine ⟨w,?_,h4⟩
   have:¬ sx k=sx s:=fun z=>q (E4 z).symm
   simpa [valueAt,List.find?_cons,this] using h3
theorem Aav (c:Cx) (s:String) (t:Tok):(strKind pw c.w).is (sx s) (.str (sx s) t)=true:=by
 simp [PySem.strKind,PySem.Value.isStrOf]
theorem Amp {c:Cx} {ρ:Pl} {σ:AS} {h:Heap} {a b x:AVal} {v w:Value} {A:Around} {k:Nat} {d:Drawn} {tk:Tok} {os:OsState} {Q:Value→Shared→Prop} {E:Value→Shared→Prop}
  (S:Sat c ρ σ h) (room:Room A k) (hv:Ce ρ h a v) (hw:Ce ρ h b w) (hx:σ.item a b=some x)
  (q:∀ y tk',Ce ρ h x y→Q y ⟨h,#[],d,tk',os⟩):SubscriptOn c.M A v w Q E ⟨h,#[],d,tk,os⟩:=by
 unfold AS.item at hx
 (set_option tactic.hygienic true in split at hx)
 ·rename_i xs n
  (set_option tactic.hygienic true in split at hx)
  ·rename_i hn
   obtain ⟨p,vs,rfl,_,ht,hr⟩:=hv
   obtain ⟨t,rfl⟩:=hw
   obtain ⟨y,hy,hxy⟩:=hr.get hx
   have hlt:n.toNat < vs.length:=(List.getElem?_eq_some_iff.mp hy).1
   refine ⟨"tuple",_,slot_tuple_getitem.lookup,IsTup.typeIs ht,getItem_tuple (j:=n.toNat) (x:=y) ht (by lia) (by lia) ?_ ?_ (q _ _ hxy)⟩
   ·have h0:¬ n < 0:=by lia
    have h1:(0≤n∧n < (vs.toArray.size:Int)):=by rw [List.size_toArray]; lia
    simp only [seqIndex?,h0,if_false]
    rw [if_pos (by simpa using h1)]
   ·simpa using hy
  ·cases hx
 ·rename_i n _
  obtain ⟨xs,h1,h2⟩:=bind_some hx
  obtain ⟨p,vs,rfl,hl,hlen,hr⟩:=S.list hv h1
  obtain ⟨t,rfl⟩:=hw
  unfold Hh at h2
  (set_option tactic.hygienic true in split at h2)
  ·rename_i h0
   (set_option tactic.hygienic true in split at h2)
   ·obtain ⟨y,hy,hxy⟩:=hr.get h2
    exact ⟨"list",_,list_getitem_lookup,hl.typeIs,wpAny_getItem_list hl h0 (by lia) (by simpa using hy) (q _ _ hxy)⟩
   ·cases h2
  ·rename_i h0
   (set_option tactic.hygienic true in split at h2)
   ·rename_i h3
    obtain ⟨y,hy,hxy⟩:=hr.get h2
    have hl':=hr.len
    refine ⟨"list",_,list_getitem_lookup,hl.typeIs,wpAny_getItem_list_neg hl (by lia) (by rw [List.size_toArray,hl']; exact h3) (by lia) ?_ (q _ _ hxy)⟩
    rw [List.size_toArray,hl']; simpa using hy
   ·cases h2
 ·rename_i i s
  (set_option tactic.hygienic true in split at hx)
  ·rename_i es hi
   obtain ⟨p,kvs,hp,e,rfl,hlo,hd,hk,hr⟩:=Acr S hi hv
   obtain ⟨t,rfl⟩:=hw
   obtain ⟨y,hy,hxy⟩:=Px hk hr hx
   exact ⟨"dict",_,slot_dict_getitem.lookup,hd.typeIs,wpAny_getItem_of (Aav c s t) hd.mapOf hy (q _ _ hxy)⟩
  ·cases hx
 ·rename_i i a
  (set_option tactic.hygienic true in split at hx)
  ·rename_i ha
   subst ha
   (set_option tactic.hygienic true in split at hx)
   ·rename_i q' hi
    cases hw
    obtain ⟨p,u,hp,e,rfl,hlo,hd,hu,hr⟩:=P9 S hi hv
    subst hx
    cases u with
    | none=>cases hu
    | some y =>
     exact ⟨"dict",_,slot_dict_getitem.lookup,hd.typeIs,wpAny_getItem_heap (U7 room c.w) (Aar S.base) hd (p:=(542,y)) (by simp [Lm,atKey]) (q _ _ (hr _ _ rfl rfl))⟩
   ·cases hx
  ·cases hx
 ·cases hx
section
theorem Acv {c:Cx} {A:Around} {Q:Value→Shared→Prop} {E:Value→Shared→Prop} {s:Shared} {value slice:Expr} {o i:Value} {pos:Pos} {ops:List Value} (hs:subscripted slice false o i=operate ops (getItem o i)) (hon:SubscriptOn c.M A o i Q E s) :
  wpAny c.M A (do
   standAt pos
   let r←subscripted slice (← getitemInPython o) o i
   letTemporaryGo value o r
   pure r) Q E s:=by
 obtain ⟨T,id,hl,hT,hg⟩:=hon
 refine wpAny_bind (wpAny_standAt (wpAny_bind ?_))
 rw [getitemInPython_of_ne hT.not_modules]
 refine wpAny_bind (wpAny_specialOf hT hl ?_)
 refine wpAny_pure (wpAny_bind ?_)
 rw [hs]
 exact wpAny_operating (wpAny_mono hg (fun r s₃ h₃=>wpAny_bind (wpAny_letTemporaryGo (wpAny_pure h₃))) fun J J x=>x)
noncomputable def Bg (d1 d2:D):D:=fun m σ=>(d1 m σ).bind fun p=>(d2 m p.2).bind fun q=>(q.2.item p.1 q.1).map fun x=>(x,q.2)
section
variable {k:Nat} {fi:Fi} {pos p:Pos}
set_option tactic.hygienic true in
theorem A6 {v i:Expr} {d1 d2:D} (hv:Cf k fi v d1) (hi:Cf k fi i d2) (hs:∀ a b,subscripted i false a b=operate [a,b] (getItem a b):=by intros; rfl):Cf k fi (.Subscript v i pos) (Bg d1 d2):=by
 intro c env σ m av σ' hD A ρ h d tk os Q E room S q
 obtain ⟨⟨a,σ₁⟩,h1,h2⟩:=bind_some hD
 obtain ⟨⟨b,σ₂⟩,h3,h4⟩:=bind_some h2
 obtain ⟨x,h5,h6⟩:=B0 h4
 cases h6
 rw [arm_eval_Subscript]
 refine wpAny_bind (hv c env σ m a σ₁ h1 A ρ h d tk os _ E room S fun v h₁ tk₁ D=>?_)
 obtain ⟨ρ₁,e₁,o₁,S₁,hv⟩:=D
 refine wpAny_bind (wpAny_holding (hi c env σ₁ m b σ₂ h3 A ρ₁ h₁ d tk₁ os _ E room (S.next e₁ o₁ S₁) fun w h₂ tk₂ D=>?_))
 obtain ⟨ρ₂,e₂,o₂,S₂,hw⟩:=D
 refine Acv (hs _ _) (Amp S₂ room (hv.mono e₂ o₂) hw h5 fun y tk₃ r=>q _ _ _ (.after e₁ o₁ (.after e₂ o₂ (.same S₂ r))))
theorem Aea (items:Array Value) (a:Nat):slicePick items (some a) none none=(items.toList.drop a).toArray:=by
 by_cases h:a≤items.size
 ·exact slicePick_from items a h
 ·have e:sliceBounds (some (a:Int)) none none items.size=sliceBounds (some (items.size:Int)) none none items.size:=by
   simp only [sliceBounds,Option.getD_none]
   have h1:¬ ((a:Int) < 0):=by lia
   have h2:¬ ((items.size:Int) < 0):=by lia
   simp only [h1,h2,if_false,show (1:Int) > 0 by decide,if_true]
   congr 1
   lia
  have:=slicePick_from items items.size (Nat.le_refl _)
  unfold slicePick at this ⊢
  rw [e,this]
  congr 1
  rw [List.drop_of_length_le (by simp),List.drop_of_length_le (by simp; lia)]
theorem Aeb (items:Array Value) (b:Nat):slicePick items none (some b) none=(items.toList.take b).toArray:=by
 by_cases h:b≤items.size
 ·exact slicePick_upto items b h
 ·have e:sliceBounds none (some (b:Int)) none items.size=sliceBounds none (some (items.size:Int)) none items.size:=by
   simp only [sliceBounds,Option.getD_none]
   have h1:¬ ((b:Int) < 0):=by lia
   have h2:¬ ((items.size:Int) < 0):=by lia
   simp only [h1,h2,if_false,show (1:Int) > 0 by decide,if_true]
   congr 2
   lia
  have:=slicePick_upto items items.size (Nat.le_refl _)
  unfold slicePick at this ⊢
  rw [e,this]
  congr 1
  rw [List.take_of_length_le (by simp),List.take_of_length_le (by simp; lia)]
theorem Bm.drop {ρ:Pl} {h:Heap}:∀ {xs:List AVal} {vs:List Value} (n:Nat),Bm ρ h xs vs→Bm ρ h (xs.drop n) (vs.drop n)
 | [],_,n,r=>by cases r; simp [Bm]
 | x :: xs,vs,0,r=>r
 | _ :: _,_,n + 1,⟨v,r,e,_,h2⟩=>by subst e; exact Bm.drop n h2
theorem Bm.take {ρ:Pl} {h:Heap}:∀ {xs:List AVal} {vs:List Value} (n:Nat),Bm ρ h xs vs→Bm ρ h (xs.take n) (vs.take n)
 | [],_,n,r=>by cases r; simp [Bm]
 | _ :: _,_,0,_=>by simp [Bm]
 | _ :: _,_,n + 1,⟨v,r,e,h1,h2⟩=>by subst e; exact ⟨v,_,rfl,h1,Bm.take n h2⟩
noncomputable def Aey (d1 d2:D):D:=fun m σ=>(d1 m σ).bind fun p=>(d2 m p.2).bind fun q=>match q.1 with
 | .int n=>if 0≤n then (q.2.lst p.1).map fun xs=>(.flist (xs.drop n.toNat),q.2) else none
 | _=>none
noncomputable def Aez (d1 d2:D):D:=fun m σ=>(d1 m σ).bind fun p=>(d2 m p.2).bind fun q=>match q.1 with
 | .int n=>if 0≤n then (q.2.lst p.1).map fun xs=>(.flist (xs.take n.toNat),q.2) else none
 | _=>none
theorem Yn {c:Cx} {ρ:Pl} {σ:AS} {h:Heap} {a:AVal} {v vl vu:Value} {lo hi:Option Int} {xs ys:List AVal} {A:Around} {d:Drawn} {tk:Tok} {os:OsState} {Q:Value→Shared→Prop} {E:Value→Shared→Prop} {value:Expr} {lower upper:Option Expr}
  (S:Sat c ρ σ h) (hv:Ce ρ h a v) (hx:σ.lst a=some xs) (pl:IsPart vl lo) (pu:IsPart vu hi)
  (pick:∀ vs:List Value,Bm ρ h xs vs→∃ us:List Value,slicePick vs.toArray lo hi none=us.toArray∧us.length≤vs.length∧Bm ρ h ys us)
  (q:∀ y h' tk',Ends c ρ h (.flist ys) σ y h'→Q y ⟨h',#[],d,tk',os⟩) :
  wpAny c.M A (do
   standAt pos
   let r←subscripted (.Slice lower upper none p) (← getitemInPython v) v (.ref h.objs.size)
   letTemporaryGo value v r
   pure r) Q E ⟨h.push { cls:=.type "slice",data:=.fields #[vl,vu,.none] },#[],d,tk,os⟩:=by
 obtain ⟨l,vs,rfl,hl,hlen,r⟩:=S.list hv hx
 obtain ⟨us,h1,h2,h3⟩:=pick vs r
 have k1:=C5.push h { cls:=.type "slice",data:=.fields #[vl,vu,.none] }
 refine Acv (ops:=[.ref h.objs.size,.ref l]) rfl ⟨"list",_,list_getitem_lookup,(hl.push _).typeIs,wpAny_getItem_list_slice (hl.push _) (Heap.IsSliceOf.new ..) pl pu .none (by simp) ?_ (by rw [List.size_toArray,sizeLine_eq]; lia)⟩
 rw [h1]
 refine q _ _ _ ?_
 obtain ⟨ρ',e',o',S',r'⟩:=(S.keep k1).newList (n:=0) (h3.mono (Ext.refl _ _) (C5.old k1)) (by have:=h3.len; lia)
 exact ⟨ρ',(Ext.refl ρ h).trans e' (C5.old k1).live,(C5.old k1).trans (Ext.refl _ _) o',S',r'⟩
theorem Afv {v i:Expr} {d1 d2:D} (hv:Cf k fi v d1) (hi:Cf k fi i d2):Cf k fi (.Subscript v (.Slice (some i) none none p) pos) (Aey d1 d2):=by
 intro c env σ m av σ' hD A ρ h d tk os Q E room S q
 obtain ⟨⟨a,σ₁⟩,h1,h2⟩:=bind_some hD
 obtain ⟨⟨b,σ₂⟩,h3,h4⟩:=bind_some h2
 dsimp only at h4
 (set_option tactic.hygienic true in split at h4)
 ·rename_i n
  (set_option tactic.hygienic true in split at h4)
  ·rename_i hn
   obtain ⟨xs,h5,h6⟩:=B0 h4
   cases h6
   rw [arm_eval_Subscript]
   refine wpAny_bind (hv c env σ m a σ₁ h1 A ρ h d tk os _ E room S fun v h₁ tk₁ D=>?_)
   obtain ⟨ρ₁,e₁,o₁,S₁,hv⟩:=D
   refine wpAny_bind (wpAny_holding (wpAny_Slice (wpAny_evalPart_some (hi c env σ₁ m (.int n) _ h3 A ρ₁ h₁ d tk₁ os _ E room (S.next e₁ o₁ S₁) fun w h₂ tk₂ D=>?_))))
   obtain ⟨ρ₂,e₂,o₂,S₂,t,rfl⟩:=D
   refine wpAny_evalPart_none (wpAny_evalPart_none ?_)
   refine Yn S₂ (hv.mono e₂ o₂) h5 (.int n t) .none (fun vs r=>⟨vs.drop n.toNat,?_,by simp,r.drop _⟩) fun y h' tk' D=>q _ _ _ (.after e₁ o₁ (.after e₂ o₂ D))
   have:=Aea vs.toArray n.toNat
   rw [Int.toNat_of_nonneg hn] at this
   simpa using this
  ·cases h4
 ·cases h4
theorem Afx {v i:Expr} {d1 d2:D} (hv:Cf k fi v d1) (hi:Cf k fi i d2):Cf k fi (.Subscript v (.Slice none (some i) none p) pos) (Aez d1 d2):=by
 intro c env σ m av σ' hD A ρ h d tk os Q E room S q
 obtain ⟨⟨a,σ₁⟩,h1,h2⟩:=bind_some hD
 obtain ⟨⟨b,σ₂⟩,h3,h4⟩:=bind_some h2
 dsimp only at h4
 (set_option tactic.hygienic true in split at h4)
 ·rename_i n
  (set_option tactic.hygienic true in split at h4)
  ·rename_i hn
   obtain ⟨xs,h5,h6⟩:=B0 h4
   cases h6
   rw [arm_eval_Subscript]
   refine wpAny_bind (hv c env σ m a σ₁ h1 A ρ h d tk os _ E room S fun v h₁ tk₁ D=>?_)
   obtain ⟨ρ₁,e₁,o₁,S₁,hv⟩:=D
   refine wpAny_bind (wpAny_holding (wpAny_Slice (wpAny_evalPart_none (wpAny_evalPart_some (hi c env σ₁ m (.int n) _ h3 A ρ₁ h₁ d tk₁ os _ E room (S.next e₁ o₁ S₁) fun w h₂ tk₂ D=>?_)))))
   obtain ⟨ρ₂,e₂,o₂,S₂,t,rfl⟩:=D
   refine wpAny_evalPart_none ?_
   refine Yn S₂ (hv.mono e₂ o₂) h5 .none (.int n t) (fun vs r=>⟨vs.take n.toNat,?_,by simp; lia,r.take _⟩) fun y h' tk' D=>q _ _ _ (.after e₁ o₁ (.after e₂ o₂ D))
   have:=Aeb vs.toArray n.toNat
   rw [Int.toNat_of_nonneg hn] at this
   simpa using this
  ·cases h4
 ·cases h4
end
end
section
noncomputable def AS.setItem (σ:AS) (o key w:AVal):Option AS:=match o,key with
 | .id i,.str s=>match σ.R i with
  | some (.sdict es)=>if es.length < 1000 then some (σ.set i (.sdict (Bd es s w))) else none
  | _=>none
 | .id i,.base a=>if a=542 then (match σ.R i with
  | some (.qdict _)=>some (σ.set i (.qdict (some w)))
  | _=>none) else none
 | _,_=>none
theorem Rl {kvs:List (Str×Value)} {k:Str} {w v:Value} (hn:k ∉ kvs.map (·.1)):stored ((k,w) :: kvs) k v=(k,v) :: kvs:=by
 unfold stored
 rw [if_pos (by simp)]
 simp only [List.map_cons,if_true]
 rw [map_store_of_not_mem kvs k v hn]
theorem Qe {kvs:List (Str×Value)} {k k':Str} {w v:Value} (hk:k'≠k):stored ((k',w) :: kvs) k v=(k',w) :: stored kvs k v:=by
 unfold stored
 have:(((k',w) :: kvs).any fun kv=>decide (kv.1=k))=kvs.any fun kv=>decide (kv.1=k):=by simp [List.any_cons,hk]
 rw [this]
 split
 ·simp [hk]
 ·rfl
theorem Vi {ρ:Pl} {h:Heap} {s:String} {av:AVal} {v:Value} (hv:Ce ρ h av v):∀ {es:List (String×AVal)} {kvs:List (Str×Value)},(kvs.map (·.1)).Nodup→kvs.map (·.1)=es.map (fun e=>sx e.1)→Bm ρ h (es.map (·.2)) (kvs.map (·.2)) →
  (stored kvs (sx s) v).map (·.1)=(Bd es s av).map (fun e=>sx e.1)∧Bm ρ h ((Bd es s av).map (·.2)) ((stored kvs (sx s) v).map (·.2))
 | [],[],_,_,_=>⟨rfl,v,[],rfl,hv,rfl⟩
 | [],_ :: _,_,e,_=>by cases e
 | _ :: _,[],_,e,_=>by cases e
 | (k,a) :: es,(k',w) :: kvs,hn,e,⟨w',r,e2,h1,h2⟩=>by
  simp only [List.map_cons,List.cons.injEq] at e e2
  obtain ⟨rfl,e⟩:=e
  obtain ⟨rfl,rfl⟩:=e2
  rw [List.map_cons,List.nodup_cons] at hn
  unfold Bd
  by_cases q:s=k
  ·subst q
   rw [Rl hn.1,if_pos rfl]
   exact ⟨by simp [e],v,_,rfl,hv,h2⟩
  ·rw [Qe fun z=>q (E4 z).symm,if_neg q]
   obtain ⟨i1,i2⟩:=Vi hv hn.2 e h2
   exact ⟨by simp [i1],w,_,rfl,h1,i2⟩
theorem Zj {c:Cx} {h:Heap} {a:Addr} {kvs:List (Str×Value)} (x:h.DictOf (PySem.strKind pw c.w) a kvs):(kvs.map (·.1)).Nodup:=by
 obtain ⟨o,ho,r⟩:=Heap.dictOf_iff.mp x
 obtain ⟨_,_,_,_,_,hn⟩:=r
 exact hn.2
theorem Act {c:Cx} {ρ:Pl} {σ σ':AS} {h:Heap} {a b x:AVal} {v w y:Value} {A:Around} {k:Nat} {d:Drawn} {tk:Tok} {os:OsState} {Q:Unit→Shared→Prop} {E:Value→Shared→Prop}
  (S:Sat c ρ σ h) (room:Room A k) (hv:Ce ρ h a v) (hw:Ce ρ h b w) (hy:Ce ρ h x y) (hx:σ.setItem a b x=some σ')
  (q:∀ h' tk',Sat c ρ σ' h'→Old ρ h h'→Q () ⟨h',#[],d,tk',os⟩):wpAny c.M A (setItem v w y) Q E ⟨h,#[],d,tk,os⟩:=by
 unfold AS.setItem at hx
 (set_option tactic.hygienic true in split at hx)
 ·rename_i i s
  (set_option tactic.hygienic true in split at hx)
  ·rename_i es hi
   (set_option tactic.hygienic true in split at hx)
   ·rename_i hlen
    cases hx
    obtain ⟨p,kvs,hp,e,rfl,hlo,hd,hk,hr⟩:=Acr S hi hv
    obtain ⟨t,rfl⟩:=hw
    have hl:kvs.length=es.length:=by have:=congrArg List.length hk; simpa using this
    refine wpAny_setItem_pairs (Aav c s t) hd (fun h' hd' hs=>?_) (by rw [hl,sizeLine_eq]; lia)
    have hkk:∀ b o,h.get? b=some o→b≠p.1→b≠p.2→h'.get? b=some o:=fun b o e1 n1 _=>(hs.2 b n1).trans e1
    have hold:Old ρ h h':=fun b x e hn=>hkk b x e (fun q=>hn ⟨i,p,hp,.inl q⟩) (fun q=>hn ⟨i,p,hp,.inr q⟩)
    obtain ⟨j1,j2⟩:=Vi (hy.mono (Ext.refl _ _) hold) (Zj hd) hk (Bm.mono (Ext.refl _ _) hold hr) (s:=s)
    exact (fun z=>q h' _ z.1 z.2) (S.change hp hkk (o:=.sdict (Bd es s x)) ⟨e,_,hd',j1,j2⟩)
   ·cases hx
  ·cases hx
 ·rename_i i a
  (set_option tactic.hygienic true in split at hx)
  ·rename_i ha
   subst ha
   (set_option tactic.hygienic true in split at hx)
   ·rename_i q' hi
    cases hx
    cases hw
    obtain ⟨p,u,hp,e,rfl,hlo,hd,hu,hr⟩:=P9 S hi hv
    refine wpAny_setItem_heap (U7 room c.w) (Aar S.base) hd (fun h' hd' hs=>?_) (by cases u <;> simp [Lm,sizeLine_eq])
    have hkk:∀ b o,h.get? b=some o→b≠p.1→b≠p.2→h'.get? b=some o:=fun b o e1 n1 _=>(hs.2 b n1).trans e1
    have hold:Old ρ h h':=fun b x e hn=>hkk b x e (fun q=>hn ⟨i,p,hp,.inl q⟩) (fun q=>hn ⟨i,p,hp,.inr q⟩)
    have hst:storedH (Lm u) Acm 542 y=Lm (some y):=by cases u <;> simp [storedH,Lm,atKey,putAt]
    rw [hst] at hd'
    obtain ⟨o,des,ep,g1,⟨g2,g3,g4⟩,g5,g6,_⟩:=hd'
    refine (fun z=>q h' _ z.1 z.2) (S.change hp hkk (o:=.qdict (some x)) ⟨e,ep,y,?_,hy.mono (Ext.refl _ _) hold⟩)
    rw [g1]
    obtain ⟨c1,c2,c3,c4⟩:=o
    simp only at g2 g3 g4 g5
    subst g2 g3 g4 g5
    have:des=#[⟨Ajp c.w,.ref 542,y⟩]:=by
     apply Array.toList_inj.mp
     rw [g6]; rfl
    rw [this]
   ·cases hx
  ·cases hx
 ·cases hx
noncomputable def Fy (dv dob dk:D):SD:=fun m σ=>(dv m σ).bind fun p=>(dob m p.2).bind fun q=>(dk m q.2).bind fun r=>(r.2.setItem q.1 r.1 p.1).map fun σ'=>(.next,m,σ')
noncomputable def R6 (f:Int→Int→Option Int) (dob:D) (n:String) (dv:D):SD:=fun m σ=>(dob m σ).bind fun p=>(p.2.field p.1 n).bind fun old=>(dv m p.2).bind fun q=>match old,q.1 with
 | .int x,.int y=>(f x y).bind fun z=>(q.2.setF p.1 n (.int z)).map fun σ'=>(.next,m,σ')
 | _,_=>none
noncomputable def Afn (f:Int→Int→Option Int) (dob dk dv:D):SD:=fun m σ=>(dob m σ).bind fun p=>(dk m p.2).bind fun r=>(r.2.item p.1 r.1).bind fun old=>(dv m r.2).bind fun q=>match old,q.1 with
 | .int x,.int y=>(f x y).bind fun z=>(q.2.setItem p.1 r.1 (.int z)).map fun σ'=>(.next,m,σ')
 | _,_=>none
section
variable {k:Nat} {fi:Fi} {pos pos':Pos}
set_option tactic.hygienic true in
theorem Ei {o i e:Expr} {dv dob dk:D} (he:Cf k fi e dv) (ho:Cf k fi o dob) (hi:Cf k fi i dk)
  (hs:∀ env:Env,swapsWith e (some (.Subscript o i pos')) pos.line env=pure false:=by intro _; rfl):Mk k fi (.Assign [.Subscript o i pos'] e pos) (Fy dv dob dk):=by
 intro c env σ m fl m' σ' hS A ρ h d tk os Q E r S q
 obtain ⟨⟨av,σ₁⟩,h1,h2⟩:=bind_some hS
 obtain ⟨⟨ov,σ₂⟩,h3,h4⟩:=bind_some h2
 obtain ⟨⟨kv,σ₃⟩,h5,h6⟩:=bind_some h4
 obtain ⟨σ₄,h7,h8⟩:=B0 h6
 cases h8
 refine wpAny_Assign_Subscript (he c env σ m av σ₁ h1 A ρ h d tk os _ E r S fun v h₁ tk₁ D=>?_) (hs env)
 obtain ⟨ρ₁,e₁,o₁,S₁,hv⟩:=D
 refine ho c env σ₁ m ov σ₂ h3 A ρ₁ h₁ d tk₁ os _ E r (S.next e₁ o₁ S₁) fun w h₂ tk₂ D=>?_
 obtain ⟨ρ₂,e₂,o₂,S₂,hw⟩:=D
 have e12:=e₁.trans e₂ o₁.live
 have o12:=o₁.trans e₁ o₂
 refine hi c env σ₂ m kv σ₃ h5 A ρ₂ h₂ d tk₂ os _ E r (S.next e12 o12 S₂) fun x h₃ tk₃ D=>?_
 obtain ⟨ρ₃,e₃,o₃,S₃,hx⟩:=D
 refine Act S₃ r (hw.mono e₃ o₃) hx ((hv.mono e₂ o₂).mono e₃ o₃) h7 fun h₄ tk₄ S₄ o₄=>?_
 have e13:=e12.trans e₃ o12.live
 have o13:=o12.trans e12 o₃
 exact q _ _ _ ρ₃ rfl e13 (o13.trans e13 o₄).x (S.next e13 (o13.trans e13 o₄) S₄)
theorem Nh {o e:Expr} {op:Operator} {n:String} {f:Int→Int→Option Int} {dv dob:D} (ho:Cf k fi o dob) (he:Cf k fi e dv) (hn:Fg.contains n=true) (ok:Aft op f):Mk k fi (.AugAssign (.Attribute o (Str.ofString n) pos') op e pos) (R6 f dob n dv):=by
 intro c env σ m fl m' σ' hS A ρ h d tk os Q E r S q
 obtain ⟨⟨ov,σ₁⟩,h1,h2⟩:=bind_some hS
 obtain ⟨old,h3,h4⟩:=bind_some h2
 obtain ⟨⟨av,σ₂⟩,h5,h6⟩:=bind_some h4
 refine wpAny_AugAssign_AttributeAny (ho c env σ m ov σ₁ h1 A ρ h d tk os _ E r S fun v h₁ tk₁ D=>?_)
 obtain ⟨ρ₁,e₁,o₁,S₁,hv⟩:=D
 refine Ang S₁ hv h3 hn fun x tk₂ hx=>?_
 refine he c env σ₁ m av σ₂ h5 A ρ₁ h₁ d tk₂ os _ E r (S.next e₁ o₁ S₁) fun w h₂ tk₃ D=>?_
 obtain ⟨ρ₂,e₂,o₂,S₂,hw⟩:=D
 dsimp only at h6
 (set_option tactic.hygienic true in split at h6)
 ·obtain ⟨z,hz,h7⟩:=bind_some h6
  obtain ⟨σ₃,h8,h9⟩:=B0 h7
  cases h9
  obtain ⟨t,rfl⟩:=hx
  obtain ⟨u,rfl⟩:=hw
  refine (ok hz).2 fun tk=>?_
  refine Ao6 S₂ (hv.mono e₂ o₂) (av:=.int z) ⟨tk,rfl⟩ h8 hn fun h₃ tk₃ S₃ o₃=>?_
  have e12:=e₁.trans e₂ o₁.live
  have o12:=o₁.trans e₁ o₂
  exact q _ _ _ ρ₂ rfl e12 (o12.trans e12 o₃).x (S.next e12 (o12.trans e12 o₃) S₃)
 ·cases h6
theorem Af0 {o i e:Expr} {op:Operator} {f:Int→Int→Option Int} {dv dob dk:D} (ho:Cf k fi o dob) (hi:Cf k fi i dk) (he:Cf k fi e dv) (ok:Aft op f)
  (hst:∀ ov iv new,augStore i ov iv new=(do holding [new,ov,iv] (setItem ov iv new); release [new,ov,iv] []; pure .next):=by intros; rfl):Mk k fi (.AugAssign (.Subscript o i pos') op e pos) (Afn f dob dk dv):=by
 intro c env σ m fl m' σ' hS A ρ h d tk os Q E r S q
 obtain ⟨⟨ov,σ₁⟩,h1,h2⟩:=bind_some hS
 obtain ⟨⟨kv,σ₂⟩,h3,h4⟩:=bind_some h2
 obtain ⟨old,h5,h6⟩:=bind_some h4
 obtain ⟨⟨av,σ₃⟩,h7,h8⟩:=bind_some h6
 refine wpAny_AugAssign_SubscriptAny (ho c env σ m ov σ₁ h1 A ρ h d tk os _ E r S fun v h₁ tk₁ D=>?_) hst
 obtain ⟨ρ₁,e₁,o₁,S₁,hv⟩:=D
 refine hi c env σ₁ m kv σ₂ h3 A ρ₁ h₁ d tk₁ os _ E r (S.next e₁ o₁ S₁) fun w h₂ tk₂ D=>?_
 obtain ⟨ρ₂,e₂,o₂,S₂,hw⟩:=D
 have e12:=e₁.trans e₂ o₁.live
 have o12:=o₁.trans e₁ o₂
 obtain ⟨_,_,_,_,get⟩:=Amp S₂ r (hv.mono e₂ o₂) hw h5 (Q:=fun y s'=>∃ tk',Ce ρ₂ h₂ old y∧s'=⟨h₂,#[],d,tk',os⟩) (tk:=tk₂) (d:=d) (os:=os) (E:=E) fun y tk' ry=>⟨tk',ry,rfl⟩
 refine wpAny_mono get (fun y s' hh=>?_) fun _ _ e=>e
 obtain ⟨tk₃,hx,rfl⟩:=hh
 refine he c env σ₂ m av σ₃ h7 A ρ₂ h₂ d tk₃ os _ E r (S.next e12 o12 S₂) fun x h₃ tk₄ D=>?_
 obtain ⟨ρ₃,e₃,o₃,S₃,hz⟩:=D
 dsimp only at h8
 (set_option tactic.hygienic true in split at h8)
 ·obtain ⟨z,hzz,h9⟩:=bind_some h8
  obtain ⟨σ₄,h10,h11⟩:=B0 h9
  cases h11
  obtain ⟨t,rfl⟩:=hx
  obtain ⟨u,rfl⟩:=hz
  refine (ok hzz).2 fun tk=>?_
  refine Act S₃ r ((hv.mono e₂ o₂).mono e₃ o₃) (hw.mono e₃ o₃) (x:=.int z) ⟨tk,rfl⟩ h10 fun h₄ tk₅ S₄ o₄=>?_
  have e13:=e12.trans e₃ o12.live
  have o13:=o12.trans e12 o₃
  exact q _ _ _ ρ₃ rfl e13 (o13.trans e13 o₄).x (S.next e13 (o13.trans e13 o₄) S₄)
 ·cases h8
end
end
section
noncomputable abbrev Ps:=B1→AS→Option (List (String×AVal)×AS)
noncomputable def Aev (k:Nat) (fi:Fi) (pos:Pos) (keys:List (Option Expr)) (values:List Expr) (P:Ps):Prop:=keys.all (·.isSome)=true∧keys.length=values.length∧∀ c env σ m es σ',P m σ=some (es,σ') →
 ∀ (A:Around) (ρ:Pl) (h:Heap) (d:Drawn) (tk:Tok) (os:OsState) (Q:List (Value×Value)→Shared→Prop) (E:Value→Shared→Prop),Room A k→St c ρ fi σ env m h →
  (∀ (vs:List (Value×Value)) (kvs:List (Str×Value)) ρ' h' tk',Ext ρ ρ' h→Old ρ h h'→Sat c ρ' σ' h'→Carries (PySem.strKind pw c.w) vs kvs→kvs.map (·.1)=es.map (fun e=>sx e.1)→Bm ρ' h' (es.map (·.2)) (kvs.map (·.2))→Q vs ⟨h',#[],d,tk',os⟩) →
  wpAny c.M A (evalPairs (pairTrees keys values env pos)) Q E ⟨h,#[],d,tk,os⟩
noncomputable def N9:Ps:=fun _ σ=>some ([],σ)
noncomputable def Ct (s:String) (a:D) (b:Ps):Ps:=fun m σ=>(a m σ).bind fun p=>(b m p.2).map fun q=>((s,p.1) :: q.1,q.2)
section
variable {k:Nat} {fi:Fi} {pos pos':Pos}
theorem Qo:Aev k fi pos [] [] N9:=by
 refine ⟨rfl,rfl,?_⟩
 intro c env σ m es σ' hD A ρ h d tk os Q E r S q
 cases hD
 exact pairTrees_nil_walk (q [] [] _ _ _ (Ext.refl _ _) (Old.refl _ _) S.sat trivial rfl rfl)
set_option tactic.hygienic true in
theorem Dl {s:String} {kd:Nat} {e:Expr} {keys:List (Option Expr)} {values:List Expr} {a:D} {b:Ps} (he:Cf k fi e a) (hes:Aev k fi pos keys values b) :
  Aev k fi pos (some (.Constant (.str (Str.ofString s)) kd pos') :: keys) (e :: values) (Ct s a b):=by
 obtain ⟨g1,g2,hes⟩:=hes
 refine ⟨by simpa using g1,by simpa using g2,?_⟩
 intro c env σ m es σ' hD A ρ h d tk os Q E r S q
 obtain ⟨⟨av,σ₁⟩,h1,h2⟩:=bind_some hD
 obtain ⟨⟨ps,σ₂⟩,h3,h4⟩:=B0 h2
 cases h4
 refine pairTrees_cons_walk (wpAny_Constant_str (he c env σ m av σ₁ h1 A ρ h d _ os _ E r S fun v h₁ tk₁ D=>?_))
 obtain ⟨ρ₁,e₁,o₁,S₁,hv⟩:=D
 refine hes c env σ₁ m ps σ₂ h3 A ρ₁ h₁ d tk₁ os _ E r (S.next e₁ o₁ S₁) fun vs kvs ρ₂ h₂ tk₂ e₂ o₂ S₂ hc hk hr=>?_
 exact q _ ((sx s,v) :: kvs) _ _ _ (e₁.trans e₂ o₁.live) (o₁.trans e₁ o₂) S₂ ⟨Aav c s _,rfl,hc⟩ (by simp [hk]) ⟨v,_,rfl,hv.mono e₂ o₂,hr⟩
end
theorem P3:∀ {kvs acc:List (Str×Value)},((acc++kvs).map (·.1)).Nodup→merged acc kvs=acc++kvs
 | [],acc,_=>by simp [merged]
 | (k,v) :: kvs,acc,h=>by
  have hk:k ∉ acc.map (·.1):=by
   rw [List.map_append,List.nodup_append] at h
   intro hm
   exact h.2.2 _ hm k (by simp) rfl
  have:stored acc k v=acc++[(k,v)]:=by
   unfold stored
   rw [if_neg]
   intro hany
   obtain ⟨x,hx,hxk⟩:=List.any_eq_true.mp hany
   exact hk (List.mem_map.mpr ⟨x,hx,by simpa using hxk⟩)
  show merged (stored acc k v) kvs=_
  rw [this,P3 (by simpa using h)]
  simp
noncomputable def Ir (nm:Nm) (P:Ps):D:=fun m σ=>(nm m σ).bind fun i=>(σ.born i (.sdict [])).bind fun σ₀=>(P m σ₀).bind fun q=>match q.2.R i with
 | some (.sdict [])=>if (q.1.map (·.1)).Nodup∧q.1.length≤15 then some (.id i,q.2.set i (.sdict q.1)) else none
 | _=>none
theorem Ain {es:List (String×AVal)} (h:(es.map (·.1)).Nodup):(es.map fun e=>sx e.1).Nodup:=by
 induction es with
 | nil=>simp
 | cons e r ih =>
  simp only [List.map_cons,List.nodup_cons] at h ⊢
  refine ⟨fun hm=>h.1 ?_,ih h.2⟩
  obtain ⟨e',he,q⟩:=List.mem_map.mp hm
  exact List.mem_map.mpr ⟨e',he,E4 q⟩
section
variable {k:Nat} {fi:Fi} {pos:Pos}
theorem Oe {keys:List (Option Expr)} {values:List Expr} {nm:Nm} {P:Ps} (h:Aev k fi pos keys values P) (h0:keys≠[]) (hlen:keys.length≤15):Cf k fi (.Dict keys values pos) (Ir nm P):=by
 obtain ⟨g1,g2,h⟩:=h
 intro c env σ m av σ' hD A ρ hh d tk os Q E r S q
 obtain ⟨i,h1,h2⟩:=bind_some hD
 obtain ⟨σ₀,h3,h4⟩:=bind_some h2
 obtain ⟨⟨es,σ₁⟩,h5,h6⟩:=bind_some h4
 obtain ⟨h7,rfl⟩:=Kd h3
 dsimp only at h6
 (set_option tactic.hygienic true in split at h6)
 ·rename_i hR
  (set_option tactic.hygienic true in split at h6)
  ·rename_i hnd
   cases h6
   have hk:=C5.push hh ⟨.type "dict",none,.dict #[] 0,#[]⟩
   have hf:=Cc hh
   have hnew:(hh.push { cls:=.type "dict",data:=.dict #[] }).DictOf (PySem.strKind pw c.w) hh.objs.size []:=Heap.DictOf.new hh
   obtain ⟨S₂,e₂⟩:=S.sat.new h7 hk (p:=(hh.objs.size,hh.objs.size)) ⟨hf,S.sat.big⟩ ⟨hf,S.sat.big⟩ (o:=.sdict []) ⟨rfl,[],hnew,rfl,rfl⟩
   refine wpAny_Dict_walk (knd:=PySem.strKind pw c.w) g1 g2 h0 hlen (h c env _ m es σ₁ h5 A _ _ d _ os _ E r (S.next e₂ (C5.old hk) S₂) fun vs kvs ρ₃ h₃ tk₃ e₃ o₃ S₃ hc hkk hr=>?_)
   have hp:=e₃.pl i (hh.objs.size,hh.objs.size) (B8 ..)
   obtain ⟨p',hp',e,kvs',hd',hk',hr'⟩:=S₃.objs i _ hR
   obtain rfl:=Option.some.inj (hp.symm.trans hp')
   have hkvs:kvs'=[]:=by cases kvs' with | nil=>rfl | cons _ _=>cases hk'
   subst hkvs
   refine ⟨kvs,hc,hd',fun h₄ hd₄ hs=>q _ _ _ ?_⟩
   rw [P3 (by simp only [List.nil_append]; rw [hkk]; exact Ain hnd.1)] at hd₄
   have hkp:∀ b o,h₃.get? b=some o→b≠hh.objs.size→b≠hh.objs.size→h₄.get? b=some o:=fun b o e1 n1 _=>(hs.2 b n1).trans e1
   have hold:Old ρ₃ h₃ h₄:=fun b x e hn=>hkp b x e (fun q=>hn ⟨i,_,hp,.inl q⟩) (fun q=>hn ⟨i,_,hp,.inr q⟩)
   obtain ⟨S₄,o₄⟩:=S₃.change hp hkp (o:=.sdict es) ⟨rfl,kvs,by simpa using hd₄,hkk,Bm.mono (Ext.refl _ _) hold hr⟩
   have e23:=e₂.trans e₃ (C5.old hk).live
   have o23:=(C5.old (ρ:=ρ) hk).trans e₂ o₃
   exact ⟨ρ₃,e23,o23.trans e23 o₄,S₄,_,hp,rfl⟩
  ·cases h6
 ·cases h6
end
end
section
noncomputable def D5 (bb:B) (body:SD):Nat→SD
 | 0=>fun J J=>none
 | n + 1=>fun m σ=>(bb m σ).bind fun p=>if p.1 then (body m p.2).bind fun q=>match q with
   | (.next,m',σ')=>D5 bb body n m' σ'
   | (.ret v,m',σ')=>some (.ret v,m',σ')
  else some (.next,m,p.2)
section
variable {k:Nat} {fi:Fi} {pos:Pos}
inductive WInv (c:Cx) (fi:Fi) (bb:B) (body:SD) (env:Env) (σ':AS) (m':B1) (fl:AFl) (d:Drawn) (os:OsState) (h:Heap) (ρ:Pl) (j:Nat) (s:Shared):Prop
 | mk (h₁:Heap) (tk₁:Tok) (ρ₁:Pl) (m₁:B1) (σ₁:AS) (hs:s=(⟨h₁,#[],d,tk₁,os⟩:Shared)) (e:Ext ρ ρ₁ h) (o:Oc ρ fi env h h₁) (S:St c ρ₁ fi σ₁ env m₁ h₁) (hj:D5 bb body j m₁ σ₁=some (fl,m',σ')):WInv c fi bb body env σ' m' fl d os h ρ j s
set_option tactic.hygienic true in
theorem Gz {t:Expr} {ss:List Stmt} {bb:B} {body:SD} (n:Nat) (ht:Tl k fi t bb) (hb:Cs k fi ss body):Mk k fi (.While t ss [] pos) (D5 bb body n):=by
 intro c env σ m fl m' σ' hS A ρ h d tk os Q E r S q
 refine wpAny_While ?_
 refine codeAny_whileLoop (fun j s=>WInv c fi bb body env σ' m' fl d os h ρ j s) ?_ n
  ⟨h,tk,ρ,m,σ,rfl,Ext.refl _ _,(Old.refl _ _).x,S,hS⟩
 rintro j s ⟨h₁,tk₁,ρ₁,m₁,σ₁,rfl,e₁,o₁,S₁,hj⟩
 cases j with
 | zero=>cases hj
 | succ j =>
  obtain ⟨⟨b,σ₂⟩,h2,h3⟩:=bind_some hj
  refine ht c env σ₁ m₁ b σ₂ h2 A ρ₁ h₁ d tk₁ os _ _ r S₁ fun ρ₂ h₂ tk₂ e₂ o₂ S₂=>?_
  have e12:=e₁.trans e₂ o₁.1
  have o12:=o₁.trans e₁ o₂.x
  cases b with
  | false =>
   cases h3
   exact wpAny_execs_nil (q _ _ _ _ rfl e12 o12 (S₁.next e₂ o₂ S₂))
  | true =>
   obtain ⟨⟨f,m₃,σ₃⟩,h4,h5⟩:=bind_some h3
   refine hb c env σ₂ m₁ f m₃ σ₃ h4 A ρ₂ h₂ d tk₂ os _ _ r (S₁.next e₂ o₂ S₂) fun f' h₃ tk₃ ρ₃ hf e₃ o₃ S₃=>?_
   have e13:=e12.trans e₃ o12.1
   have o13:=o12.trans e12 o₃
   cases f with
   | next=>cases hf; exact ⟨j,Nat.lt_succ_self _,h₃,tk₃,ρ₃,m₃,σ₃,rfl,e13,o13,S₃,h5⟩
   | ret v =>
    cases h5
    obtain ⟨w,rfl,hw⟩:=hf
    exact q _ _ _ ρ₃ ⟨w,rfl,hw⟩ e13 o13 S₃
end
noncomputable abbrev Tg:=AVal→B1→Option B1
noncomputable def Ac6 (fi:Fi) (t:Expr) (T:Tg):Prop:=∀ (c:Cx) (env:Env) (σ:AS) (m m':B1) (av:AVal) (k:Nat),T av m=some m' →
 ∀ (A:Around) (ρ:Pl) (h:Heap) (d:Drawn) (tk:Tok) (os:OsState) (v:Value) (Q:Unit→Shared→Prop) (E:Value→Shared→Prop),Room A k→St c ρ fi σ env m h→Ce ρ h av v →
  (∀ h' tk',Oc ρ fi env h h'→St c ρ fi σ env m' h'→Q () ⟨h',#[],d,tk',os⟩)→wpAny c.M A (assign t env v) Q E ⟨h,#[],d,tk,os⟩
noncomputable def B3 (x:String):Tg:=fun av m=>some (Bd m x av)
noncomputable def Rm (xs:List String):Tg:=fun av m=>match av with
 | .tup avs=>if avs.length=xs.length then some ((xs.zip avs).foldl (fun m p=>Bd m p.1 p.2) m) else none
 | _=>none
section
variable {fi:Fi} {pos:Pos}
theorem Bt {x:String} (hx:Pp fi x=true:=by kernel_rfl):Ac6 fi (.Name (Str.ofString x) pos) (B3 x):=by
 intro c env σ m m' av k hT A ρ h d tk os v Q E r S hv q
 cases hT
 exact wpAny_assign_Name (S.storeLoc hx hv fun h' tk' S' o'=>q _ _ o' S')
inductive Row (fi:Fi):List Expr→List String→Prop
 | nil:Row fi [] []
 | cons {x:String} {pos:Pos} {es:List Expr} {xs:List String}:Pp fi x=true→Row fi es xs→Row fi (.Name (Str.ofString x) pos :: es) (x :: xs)
theorem Alu {env:Env} {es:List Expr} {xs:List String} (h:Row fi es xs):(assignEach es env).length=xs.length∧(assignEach es env).findIdx? (·.1)=none:=by
 induction h with
 | nil=>exact ⟨rfl,rfl⟩
 | @cons x p es xs hx h ih =>
  obtain ⟨i1,i2⟩:=ih
  have e:assignEach (.Name (Str.ofString x) p :: es) env=(false,assign (.Name (Str.ofString x) p) env) :: assignEach es env:=rfl
  rw [e]
  refine ⟨by simp [i1],?_⟩
  simp [List.findIdx?_cons,i2]
theorem Ajv {c:Cx} {env:Env} {σ:AS} {k:Nat} {A:Around} {ρ:Pl} {d:Drawn} {os:OsState} {Q:Unit→Shared→Prop} {E:Value→Shared→Prop} (r:Room A k) {es:List Expr} {xs:List String} (he:Row fi es xs):∀ {avs:List AVal} {vs:List Value} {m:B1} {h:Heap} {tk:Tok},
  avs.length=xs.length→St c ρ fi σ env m h→Bm ρ h avs vs→(∀ h' tk',Oc ρ fi env h h'→St c ρ fi σ env ((xs.zip avs).foldl (fun m p=>Bd m p.1 p.2) m) h'→Q () ⟨h',#[],d,tk',os⟩) →
  wpAny c.M A (assignInOrder ((assignEach es env).map (·.2)) vs) Q E ⟨h,#[],d,tk,os⟩:=by
 induction he with
 | nil =>
  intro avs vs m h tk hl S hv q
  exact wpAny_pure (q _ _ (Old.refl _ _).x S)
 | @cons x p es xs hx h ih =>
  intro avs vs m h tk hl S hv q
  cases avs with
  | nil=>cases hl
  | cons a avs =>
   obtain ⟨v,w,rfl,hv,hvs⟩:=hv
   have e:assignEach (.Name (Str.ofString x) p :: es) env=(false,assign (.Name (Str.ofString x) p) env) :: assignEach es env:=rfl
   rw [e,List.map_cons,assignInOrder]
   refine wpAny_bind (wpAny_holding (wpAny_assign_Name (S.storeLoc hx hv fun h' tk' S' o'=>?_)))
   refine ih (by simpa using hl) S' (Bm.monoF (Ext.refl _ _) (o'.fz S) hvs) fun h'' tk'' o'' S''=>?_
   exact q _ _ (o'.trans (Ext.refl _ _) o'') S''
theorem Oy {es:List Expr} {xs:List String} {kd:Nat} (he:Row fi es xs):Ac6 fi (.Tuple es kd pos) (Rm xs):=by
 intro c env σ m m' av k hT A ρ h d tk os v Q E r S hv q
 unfold Rm at hT
 (set_option tactic.hygienic true in split at hT)
 ·rename_i avs
  (set_option tactic.hygienic true in split at hT)
  ·rename_i hl
   cases hT
   obtain ⟨a,vs,rfl,hm,ht,hr⟩:=hv
   obtain ⟨i1,i2⟩:=Alu (env:=env) he
   refine wpAny_assign_Tuple r.hh ht (by rw [i1,List.size_toArray,hr.len,hl]) i2 fun h' hx=>?_
   have hk:C5 h h':=fun b o e=>hx b o (Nat.ne_of_lt (Heap.lt_size e)) e
   have S':=S.next (Ext.refl _ _) (C5.old hk) (S.sat.keep hk)
   refine Ajv r he hl S' (Bm.mono (Ext.refl _ _) (C5.old hk) hr) fun h'' tk'' o'' S''=>?_
   exact q _ _ ((C5.old (ρ:=ρ) hk).x.trans (Ext.refl _ _) o'') S''
  ·cases hT
 ·cases hT
end
end
section
theorem get?_push_ne (h:Heap) (o:Obj) {b:Nat} (hb:b≠h.objs.size):(h.push o).get? b=h.get? b:=by
 unfold Heap.get? Heap.push
 rw [Array.getElem?_push,if_neg hb]
structure Aside (ρ:Pl) (fi:Fi) (env:Env) (h:Heap) (I:Nat):Prop where
 lo:602≤I
 mt:¬ρ.Mut I
 own:¬Own fi env I
 rd:¬Rd fi env I
 seq:∀ o,h.get? I=some o→¬Ul o
theorem St.aside {c:Cx} {ρ:Pl} {fi:Fi} {σ:AS} {env:Env} {m:B1} {h h':Heap} {I:Nat} (S:St c ρ fi σ env m h) (a:Aside ρ fi env h I) (he:∀ b o,b≠I→h.get? b=some o→h'.get? b=some o):St c ρ fi σ env m h':=by
 have fz:Fz ρ h h':=fun b o e hs J=>he b o (fun q=>a.seq o (q ▸ e) hs) e
 refine ⟨S.sat.step fz (fun b o e=>he b o (S.sat.notBase a.lo e) (S.sat.base b o e)) (fun b o e q=>he b o (fun z=>a.mt (.inl (z ▸ q))) e) (fun b o x e=>⟨o,he b o (fun z=>a.mt (.inr (z ▸ x))) e⟩),?_,fun b hb=>?_,fun b hb=>?_,fun x hx=>?_,S.outer,S.env⟩
 ·exact S.locs.mono (Ext.refl _ _) fz fun b o hb e=>he b o (fun z=>hb.elim (fun q=>a.own (z ▸ q)) fun q=>a.rd (z ▸ q)) e
 ·obtain ⟨h1,h2,o,h3⟩:=S.own b hb; exact ⟨h1,h2,o,he b o (fun z=>a.own (z ▸ hb)) h3⟩
 ·obtain ⟨h1,h2,o,h3⟩:=S.rd b hb; exact ⟨h1,h2,o,he b o (fun z=>a.rd (z ▸ hb)) h3⟩
 ·obtain ⟨b,v,h1,o,h2,h3⟩:=S.cell x hx
  exact ⟨b,v,h1,o,he b o (fun z=>a.own (z ▸ .inr ⟨x,hx,h1⟩)) h2,h3⟩
noncomputable def AS.its (σ:AS) (av:AVal) (i:Nat):Option (Option AVal):=match av with
 | .rng a b=>some (if a + i < b then some (.int (a + i)) else none)
 | av=>(σ.lst av).map fun xs=>xs[i]?
noncomputable def Ka (ρ:Pl) (h:Heap) (I:Nat) (av:AVal) (i:Nat):Prop:=match av with
 | .rng a b=>IsRangeIter h I (a + i) (((b - a).toNat:Int) - i) 1
 | av=>∃ l,Ce ρ h av (.ref l)∧h.IsListIter I l i
theorem Ka.notFz {ρ:Pl} {h:Heap} {I:Nat} {av:AVal} {i:Nat} (x:Ka ρ h I av i):∃ o,h.get? I=some o∧¬Ul o:=by
 unfold Ka at x
 split at x
 ·refine ⟨_,x,?_⟩
  rintro (⟨_,_,z⟩ | ⟨z,_⟩)
  ·cases z
  ·injection z with z; exact absurd z (by decide)
 ·obtain ⟨l,_,o,ho,hc,hd⟩:=x
  refine ⟨o,ho,?_⟩
  rintro (⟨_,_,z⟩ | ⟨z,_⟩)
  ·rw [hd] at z; cases z
  ·rw [hc] at z; injection z with z; exact absurd z (by decide)
theorem Ka.mono {ρ ρ':Pl} {h h':Heap} {I:Nat} {av:AVal} {i:Nat} (x:Ka ρ h I av i) (e:Ext ρ ρ' h) (k:Fz ρ h h') (k1:∀ o,h.get? I=some o→h'.get? I=some o):Ka ρ' h' I av i:=by
 unfold Ka at x ⊢
 split at x
 ·exact k1 _ x
 ·obtain ⟨l,hv,o,ho,r⟩:=x
  exact ⟨l,hv.monoF e k,o,k1 _ ho,r⟩
theorem Amq {c:Cx} {ρ:Pl} {σ:AS} {h:Heap} {av:AVal} {v:Value} {A:Around} {d:Drawn} {tk:Tok} {os:OsState} {Q:Value→Shared→Prop} {E:Value→Shared→Prop} {r:Option AVal}
  (S:Sat c ρ σ h) (hv:Ce ρ h av v) (hx:σ.its av 0=some r) (q:∀ o tk',o.isFreed=false→Ka ρ (h.push o) h.objs.size av 0→Q (.ref h.objs.size) ⟨h.push o,#[],d,tk',os⟩):wpAny c.M A (pyIter v) Q E ⟨h,#[],d,tk,os⟩:=by
 unfold AS.its at hx
 (set_option tactic.hygienic true in split at hx)
 ·rename_i a b
  obtain ⟨ad,t,u,w,rfl,hm,hr,⟨b1,b2⟩,b3,b4⟩:=hv
  refine wpAny_pyIter_range hr (small_one (by lia) (by lia) (by lia) (by lia)) (q _ _ rfl ?_)
  show IsRangeIter _ _ _ _ _
  rw [rangeSize_nat]
  simpa using Heap.get?_push_size _ rfl
 ·rename_i hne
  obtain ⟨xs,hx,_⟩:=B0 hx
  obtain ⟨l,vs,rfl,hl,hlen,hr⟩:=S.list hv hx
  refine wpAny_pyIter_list hl (q _ _ rfl ?_)
  unfold Ka
  (set_option tactic.hygienic true in split)
  ·exact absurd rfl (hne _ _)
  ·exact ⟨l,hv.mono (Ext.refl _ _) (C5.old (C5.push _ _)),_,Heap.get?_push_size _ rfl,rfl,rfl⟩
theorem Amu {c:Cx} {ρ:Pl} {σ:AS} {h:Heap} {av:AVal} {I:Nat} {i:Nat} {A:Around} {d:Drawn} {tk:Tok} {os:OsState} {Q:Option Value→Shared→Prop} {E:Value→Shared→Prop} {r:Option AVal}
  (S:Sat c ρ σ h) (hh:A.handled=none) (hit:Ka ρ h I av i) (hx:σ.its av i=some r)
  (q:∀ y h' tk',(match r with | none=>y=none | some x=>∃ w,y=some w∧Ce ρ h x w∧Ka ρ h' I av (i + 1))→(∀ b o,b≠I→h.get? b=some o→h'.get? b=some o)→Q y ⟨h',#[],d,tk',os⟩) :
  wpAny c.M A (pyNext (.ref I)) Q E ⟨h,#[],d,tk,os⟩:=by
 obtain ⟨o,ho,hnf⟩:=hit.notFz
 unfold AS.its at hx
 unfold Ka at hit
 (set_option tactic.hygienic true in split at hx)
 ·rename_i a b
  cases hx
  by_cases hab:a + i < b
  ·refine wpAny_pyNext_range_item hit (by lia) fun h' hit' hs'=>q _ _ _ ?_ fun b o hb e=>(hs'.2 b hb).trans e
   rw [if_pos hab]
   refine ⟨_,rfl,⟨_,rfl⟩,?_⟩
   show IsRangeIter _ _ _ _ _
   have e1:a + ((i + 1:Nat):Int)=a + i + 1:=by push_cast; lia
   have e2:((b - a).toNat:Int) - ((i + 1:Nat):Int)=((b - a).toNat:Int) - i - 1:=by push_cast; lia
   rw [e1,e2]; exact hit'
  ·refine wpAny_pyNext_range_end hh hit (by lia) fun h' he'=>q _ _ _ ?_ fun b o hb e=>he' b o hb e
   rw [if_neg hab]
 ·rename_i hne
  obtain ⟨xs,hx,e⟩:=B0 hx
  (set_option tactic.hygienic true in split at hit)
  ·exact absurd rfl (hne _ _)
  ·obtain ⟨l,hv,hit⟩:=hit
   obtain ⟨l',us,el,hl,hlen,hr⟩:=S.list hv hx
   cases el
   cases hxi:xs[i]? with
   | none =>
    rw [hxi] at e; subst e
    have hus:us.toArray[i]?=none:=by
     have:=hr.len
     simp only [List.getElem?_toArray,List.getElem?_eq_none_iff] at hxi ⊢
     lia
    exact wpAny_pyNext_list_end hh hit hl hus fun h' he'=>q _ _ _ rfl fun b o hb e=>he' b o hb e
   | some x =>
    rw [hxi] at e; subst e
    obtain ⟨y,hy,hyr⟩:=hr.get hxi
    refine wpAny_pyNext_list_item hit hl (x:=y) (by simpa using hy) fun h' hit' hs'=>q _ _ _ ⟨y,rfl,hyr,?_⟩ fun b o hb e=>(hs'.2 b hb).trans e
    have fz:Fz ρ h h':=fun b o e hs _=>(hs'.2 b fun z=>by subst z; rw [ho] at e; cases e; exact hnf hs).trans e
    unfold Ka
    (set_option tactic.hygienic true in split)
    ·exact absurd rfl (hne _ _)
    ·exact ⟨l,hv.monoF (Ext.refl _ _) fz,hit'⟩
noncomputable def Vc (av:AVal) (T:Tg) (body:SD):Nat→Nat→SD
 | 0,_=>fun J J=>none
 | n + 1,i=>fun m σ=>(σ.its av i).bind fun r=>match r with
  | none=>some (.next,m,σ)
  | some x=>(T x m).bind fun m₁=>(body m₁ σ).bind fun q=>match q with
   | (.next,m',σ')=>Vc av T body n (i + 1) m' σ'
   | (.ret v,m',σ')=>some (.ret v,m',σ')
noncomputable def Ey (dd:D) (T:Tg) (body:SD) (n:Nat):SD:=fun m σ=>(dd m σ).bind fun p=>Vc p.1 T body n 0 m p.2
noncomputable def Hn:Expr→Bool
 | .Name ..=>true
 | .Tuple ..=>true
 | _=>false
theorem Yt {c:Cx} {A:Around} {E:Value→Shared→Prop} {s:Shared} {ρ:Pl} {t:Expr} {I:Addr} {av x:AVal} {i:Nat} {v:Value} {Q:Unit→Shared→Prop} (ht:Hn t=true) (hit:Ka ρ s.heap I av i) (hx:∀ a b,av=.rng a b→∃ n u,v=.int n u) (hQ:Q () s):wpAny c.M A (letOwnedTupleGo t (.ref I) v) Q E s:=by
 cases t with
 | Name=>exact wpAny_pure hQ
 | Tuple es kd pos =>
  cases v with
  | ref T =>
   unfold Ka at hit
   split at hit
   ·obtain ⟨n,u,z⟩:=hx _ _ rfl; cases z
   ·obtain ⟨l,_,hit⟩:=hit
    exact wpAny_letOwnedTupleGo_listiter hit hQ
  | _=>exact wpAny_pure hQ
 | _=>cases ht
theorem Ae7 {ρ:Pl} {h:Heap} {σ:AS} {av x:AVal} {i:Nat} {v:Value} (e:σ.its av i=some (some x)) (hv:Ce ρ h x v):∀ a b,av=.rng a b→∃ n u,v=.int n u:=by
 intro a b z
 subst z
 unfold AS.its at e
 simp only [Option.some.injEq] at e
 split at e
 ·cases e; obtain ⟨t,rfl⟩:=hv; exact ⟨_,_,rfl⟩
 ·cases e
section
variable {k:Nat} {fi:Fi} {pos:Pos}
inductive FInv (c:Cx) (fi:Fi) (T:Tg) (body:SD) (av:AVal) (env:Env) (σ':AS) (m':B1) (fl:AFl) (d:Drawn) (os:OsState) (h₁ hp:Heap) (ρ₁:Pl) (j:Nat) (s:Shared):Prop
 | mk (h₂:Heap) (tk₂:Tok) (ρ₂:Pl) (m₂:B1) (σ₂:AS) (i:Nat) (hs:s=(⟨h₂,#[],d,tk₂,os⟩:Shared)) (hit:Ka ρ₂ h₂ h₁.objs.size av i) (e:Ext ρ₁ ρ₂ hp)
  (o:∀ b o,h₁.get? b=some o→¬ρ₁.Put b→(∃ o',h₂.get? b=some o')∧(¬Own fi env b→h₂.get? b=some o)) (S:St c ρ₂ fi σ₂ env m₂ h₂) (hj:Vc av T body j i m₂ σ₂=some (fl,m',σ')):FInv c fi T body av env σ' m' fl d os h₁ hp ρ₁ j s
set_option tactic.hygienic true in
theorem Da {t it:Expr} {ss:List Stmt} {dd:D} {T:Tg} {body:SD} (n:Nat) (hi:Cf k fi it dd) (ht:Ac6 fi t T) (hp:Hn t=true) (hb:Cs k fi ss body)
  (hs:∀ (env:Env) x,foldedSetIterable it env x=pure x:=by intro _ _; rfl):Mk k fi (.For t it ss [] pos) (Ey dd T body n):=by
 intro c env σ m fl m' σ' hS A ρ h d tk os Q E r S q
 obtain ⟨⟨av,σ₁⟩,h1,h2⟩:=bind_some hS
 refine wpAny_For (hi c env σ m av σ₁ h1 A ρ h d tk os _ E r S fun v h₁ tk₁ D=>?_) (hs env)
 obtain ⟨ρ₁,e₁,o₁,S₁,hv⟩:=D
 cases n with
 | zero=>cases h2
 | succ n =>
  have ⟨r0,hx,_⟩:=bind_some h2
  refine Amq S₁ hv hx fun io tk₁ hio hit=>?_
  have kp:=C5.push h₁ io
  have hfr:=Cc h₁
  have St₁:=S.next e₁ o₁ S₁
  have St₂:=St₁.next (Ext.refl _ _) (C5.old kp) (S₁.keep kp)
  have hI:(h₁.push io).get? h₁.objs.size=some io:=Heap.get?_push_size _ hio
  have dead:∀ {b:Nat},(∃ o,h₁.get? b=some o)→b≠h₁.objs.size:=fun ⟨o,e⟩ z=>by rw [z,hfr] at e; cases e
  have nOwn:¬Own fi env h₁.objs.size:=fun q=>dead (St₁.own _ q).2.2 rfl
  have nRd:¬Rd fi env h₁.objs.size:=fun q=>dead (St₁.rd _ q).2.2 rfl
  have nMut₁:¬ρ₁.Mut h₁.objs.size:=S₁.fresh_notMut hfr
  refine codeAny_forLoop_any (fun j s=>FInv c fi T body av env σ' m' fl d os h₁ (h₁.push io) ρ₁ j s) ?_ (n + 1)
   ⟨_,_,ρ₁,m,σ₁,0,rfl,hit,Ext.refl _ _,fun b o e _=>⟨⟨o,kp b o e⟩,fun _=>kp b o e⟩,St₂,h2⟩
  rintro j s ⟨h₂,tk₂,ρ₂,m₂,σ₂,i,rfl,hit,e₂,o₂,S₂,hj⟩
  cases j with
  | zero=>cases hj
  | succ j =>
   obtain ⟨r1,hy,h3⟩:=bind_some hj
   have nMut₂:¬ρ₂.Mut h₁.objs.size:=e₂.notMut hI nMut₁
   have nPut₂:=Pl.Mut.put nMut₂
   have asd:Aside ρ₂ fi env h₂ h₁.objs.size:=by
    refine ⟨S₁.big,nMut₂,nOwn,nRd,fun o ho=>?_⟩
    obtain ⟨o',ho',hd'⟩:=hit.notFz
    rw [ho'] at ho; cases ho
    exact hd'
   have whole:∀ (h₃:Heap) (tk₃:Tok) (ρ₃:Pl) (f:AFl) (w:Flow),Ext ρ₁ ρ₃ (h₁.push io) →
     (∀ b o,h₁.get? b=some o→¬ρ₁.Put b→(∃ o',h₃.get? b=some o')∧(¬Own fi env b→h₃.get? b=some o))→St c ρ₃ fi σ' env m' h₃→Amj ρ₃ h₃ f w→f=fl→Q w ⟨h₃,#[],d,tk₃,os⟩:=by
    intro h₃ tk₃ ρ₃ f w e₃ o₃ S₃ hw hfl
    subst hfl
    have eA:Ext ρ₁ ρ₃ h₁:=(Ext.refl ρ₁ h₁).trans e₃ (C5.old kp).live
    exact q w h₃ tk₃ ρ₃ hw (e₁.trans eA o₁.live) (o₁.x.trans e₁ ⟨fun b o e n=>(o₃ b o e n).1,fun b o e n no=>(o₃ b o e n).2 no⟩) S₃
   refine Amu S₂.sat r.hh hit hy fun y h₃ tk₃ hyr he₃=>?_
   have S₃:=S₂.aside asd he₃
   have fz₃:Fz ρ₂ h₂ h₃:=fun b o e hsq _=>he₃ b o (fun z=>asd.seq o (z ▸ e) hsq) e
   cases r1 with
   | none =>
    subst hyr
    cases h3
    refine wpAny_execs_nil ?_
    refine whole h₃ _ ρ₂ .next .next e₂ (fun b o e np=>?_) S₃ rfl rfl
    have hbI:b≠h₁.objs.size:=dead ⟨o,e⟩
    obtain ⟨⟨o2,g2⟩,g3⟩:=o₂ b o e np
    exact ⟨⟨o2,he₃ b o2 hbI g2⟩,fun no=>he₃ b o hbI (g3 no)⟩
   | some x =>
    obtain ⟨yv,rfl,hyr,hit₃⟩:=hyr
    obtain ⟨m₃,h4,h5⟩:=bind_some h3
    obtain ⟨⟨f,m₄,σ₄⟩,h6,h7⟩:=bind_some h5
    refine Yt (x:=x) hp hit₃ (Ae7 hy hyr) ?_
    refine ht c env σ₂ m₂ m₃ x k h4 A ρ₂ h₃ d _ os yv _ _ r S₃ (hyr.monoF (Ext.refl _ _) fz₃) fun h₄ tk₄ o₄ S₄=>?_
    refine hb c env σ₂ m₃ f m₄ σ₄ h6 A ρ₂ h₄ d tk₄ os _ _ r S₄ fun f' h₅ tk₅ ρ₅ hf e₅ o₅ S₅=>?_
    have i3:∀ b o,h₁.get? b=some o→¬ρ₁.Put b→(∃ o',h₅.get? b=some o')∧(¬Own fi env b→h₅.get? b=some o):=fun b o e np=>by
     have hb2:¬ρ₂.Put b:=e₂.notPut (kp b o e) np
     have hbI:b≠h₁.objs.size:=dead ⟨o,e⟩
     obtain ⟨⟨o2,g2⟩,g3⟩:=o₂ b o e np
     have g2':=he₃ b o2 hbI g2
     obtain ⟨o4,g4⟩:=o₄.1 b o2 g2' hb2
     refine ⟨o₅.1 b o4 g4 hb2,fun no=>?_⟩
     exact o₅.2 b o (o₄.2 b o (he₃ b o hbI (g3 no)) hb2 no) hb2 no
    have i2:Ext ρ₁ ρ₅ (h₁.push io):=by
     refine e₂.trans e₅ fun b o e np=>?_
     by_cases hbI:b=h₁.objs.size
     ·subst hbI
      obtain ⟨o',ho',_⟩:=hit₃.notFz
      exact o₄.1 _ _ ho' nPut₂
     ·have hb2:¬ρ₂.Put b:=e₂.notPut e np
      have e1:h₁.get? b=some o:=(get?_push_ne h₁ _ hbI).symm.trans e
      obtain ⟨⟨o2,g2⟩,g3⟩:=o₂ b o e1 np
      exact o₄.1 b o2 (he₃ b o2 hbI g2) hb2
    cases f with
    | ret v =>
     cases h7
     obtain ⟨w,rfl,hw⟩:=hf
     exact whole h₅ tk₅ ρ₅ (.ret v) _ i2 i3 S₅ ⟨w,rfl,hw⟩ rfl
    | next =>
     cases hf
     refine ⟨j,Nat.lt_succ_self _,h₅,tk₅,ρ₅,m₄,σ₄,i + 1,rfl,?_,i2,i3,S₅,h7⟩
     exact (hit₃.mono (Ext.refl _ _) (o₄.fz S₃) fun o g=>o₄.2 _ _ g nPut₂ nOwn).mono e₅ (o₅.fz S₄) fun o g=>o₅.2 _ _ g nPut₂ nOwn
end
end
noncomputable abbrev Fd:=List AVal→AS→Option (AVal×AS)
noncomputable def Be (k:Nat) (a:Addr) (f:Fd):Prop:=∀ (c:Cx) (σ:AS) (avs:List AVal) (av:AVal) (σ':AS),f avs σ=some (av,σ') →
 ∀ (A:Around) (ρ:Pl) (h:Heap) (d:Drawn) (tk:Tok) (os:OsState) (vs:List Value) (R:Result→Shared→Prop),Room A k→Sat c ρ σ h→Bm ρ h avs vs →
  (∀ v h' tk',Ends c ρ h av σ' v h'→R (.ok (.ret v)) ⟨h',#[],d,tk',os⟩)→codeAny c.M A (.call (.ref a) ⟨vs,[]⟩) R ⟨h,#[],d,tk,os⟩
theorem Be.call {k:Nat} {a:Addr} {f:Fd} (hf:Be k a f) {c:Cx} {σ:AS} {avs:List AVal} {av:AVal} {σ':AS} (e:f avs σ=some (av,σ')) {A:Around} {ρ:Pl} {h:Heap} {d:Drawn} {tk:Tok} {os:OsState} {vs:List Value} {Q:Value→Shared→Prop} {E:Value→Shared→Prop}
  (r:Room A k) (S:Sat c ρ σ h) (hr:Bm ρ h avs vs) (q:∀ v h' tk',Ends c ρ h av σ' v h'→Q v ⟨h',#[],d,tk',os⟩):wpAny c.M A (PySem.call (.ref a) vs) Q E ⟨h,#[],d,tk,os⟩ :=
 wpAny_call (hf c σ avs av σ' e A ρ h d tk os vs _ r S hr fun v h' tk' D=>q v h' tk' D)
theorem Tx (kd:Str→Option NameKind):∀ (bs:List (Str×Value)) (m:Str→Option Value) (x:Str),x ∉ bs.map (·.1)→bindL kd bs m x=m x
 | [],_,_,_=>rfl
 | (n,v) :: r,m,x,hx=>by
  simp only [List.map_cons,List.mem_cons,not_or] at hx
  rw [bindL,Tx kd r _ x hx.2]
  split
  ·exact if_neg hx.1
  ·rfl
theorem Tw (kd:Str→Option NameKind):∀ (bs:List (Str×Value)) (m:Str→Option Value) (x:Str),x ∉ bs.map (·.1)→bindC kd bs m x=m x
 | [],_,_,_=>rfl
 | (n,v) :: r,m,x,hx=>by
  simp only [List.map_cons,List.mem_cons,not_or] at hx
  rw [bindC,Tw kd r _ x hx.2]
  split
  ·rfl
  ·exact if_neg hx.1
theorem O3 (kd:Str→Option NameKind):∀ (bs:List (Str×Value)) (m m':Str→Option Value) (x:Str) (v:Value),(bs.map (·.1)).Nodup→(x,v)∈bs→(kd x=some .local→bindL kd bs m x=some v)∧(kd x≠some .local→bindC kd bs m' x=some v)
 | [],_,_,_,_,_,h=>by cases h
 | (n,w) :: r,m,m',x,v,hn,h=>by
  rw [List.map_cons,List.nodup_cons] at hn
  rcases List.mem_cons.mp h with e | h
  ·cases e
   refine ⟨fun hl=>?_,fun hl=>?_⟩
   ·rw [bindL,Tx kd r _ _ hn.1,if_pos hl]; simp
   ·rw [bindC,Tw kd r _ _ hn.1,if_neg hl]; simp
  ·exact ⟨fun hl=>by rw [bindL]; exact (O3 kd r _ m' x v hn.2 h).1 hl,fun hl=>by rw [bindC]; exact (O3 kd r m _ x v hn.2 h).2 hl⟩
noncomputable def Dc (ps:List String) (avs:List AVal):B1:=ps.zip avs
theorem Tj {ρ:Pl} {h:Heap}:∀ {ps:List String} {avs:List AVal} {vs:List Value} {x:String} {av:AVal},Bm ρ h avs vs→(ps.zip avs).lookup x=some av→∃ v,(sx x,v)∈(ps.map sx).zip vs∧Ce ρ h av v
 | [],_,_,_,_,_,e=>by cases e
 | p :: ps,[],_,_,_,_,e=>by cases e
 | p :: ps,a :: avs,_,x,av,⟨v,w,e1,h1,h2⟩,e=>by
  subst e1
  rw [List.zip_cons_cons,List.lookup_cons] at e
  by_cases q:x=p
  ·subst q
   simp only [beq_self_eq_true] at e
   cases e
   exact ⟨v,by simp,h1⟩
  ·have q':(x == p)=false:=by simpa using q
   rw [q'] at e
   obtain ⟨y,h3,h4⟩:=Tj h2 e
   exact ⟨y,by rw [List.map_cons,List.zip_cons_cons]; exact List.mem_cons_of_mem _ h3,h4⟩
structure Plain (sc:Scope) (ps cs:List String):Prop where
 kind:sc.kind=.function
 co:sc.isCoroutine=false
 gen:sc.isGenerator=false
 nodup:ps.Nodup
 par:∀ x∈ps,(sc.names.lookup (sx x)=some .local∧x ∉ cs)∨(sc.names.lookup (sx x)=some .cell∧x∈cs)
 cell:∀ (L:Nat),∀ x∈cs,((cellsFrom L sc.names []).lookup (sx x)).isSome=true
set_option tactic.hygienic true in
noncomputable def C0 (ps:List String) (S:SD):Fd:=fun avs σ=>if avs.length=ps.length then (S (Dc ps avs) σ).map fun p=>(match p.1 with | .ret v=>v | .next=>.none,p.2.2) else none
inductive FnIn (a:Addr) (params:Arguments) (body:List Stmt) (sc:Scope) (dv:Value) (P:Params):Prop
 | mk name qual doc pm cd ct (h:(K0 P).lookup a=some ⟨.type "function",none,.func (fnOf name qual params body sc dv .none doc pm none cd ct),#[]⟩) (hc:codeIn (K0 P) cd qual=true):FnIn a params body sc dv P
theorem Aet {k:Nat} {a:Addr} {sc:Scope} {params:Arguments} {body:List Stmt} {ps cs:List String} {S:SD}
  (hat:∀ P,FnIn a params body sc .none P)
  (hp:Plain sc ps cs)
  (hbind:∀ name qual doc pm cd ct (vs:List Value),vs.length=ps.length→bindArgs (fnOf name qual params body sc .none .none doc pm none cd ct) ⟨vs,[]⟩=pure ((ps.map sx).zip vs))
  (hb:Cs k ⟨sc,cs,[],[]⟩ body S):Be (k + 1) a (C0 ps S):=by
 intro c σ avs av σ' hf A ρ h d tk os vs R r S₀ hr q
 unfold C0 at hf
 (set_option tactic.hygienic true in split at hf)
 ·rename_i hlen
  obtain ⟨⟨fl,m',σ₁⟩,h1,h2⟩:=B0 hf
  cases h2
  obtain ⟨name,qual,doc,pm,cd,ct,hK,hcd⟩:=hat c.w.params
  have ho:=S₀.base _ _ (c.kin _ _ hK)
  have hcr:h.CodeRec cd qual:=(codeRec_of c.kin hcd).keeps S₀.base
  have hvl:vs.length=ps.length:=hr.len.trans hlen
  have hroom:A.depth < recursionLimit:=by have:=r.dep; show A.depth < 1000; lia
  refine codeAny_call_cells (fd:=fnOf name qual params body sc .none .none doc pm none cd ct) (body:=body) hroom ho rfl (c.lim.keeps S₀.base) hcr rfl (hbind _ _ _ _ _ _ vs hvl) rfl ?_ ?_ hp.co hp.gen hp.kind
  ·intro x hx
   obtain ⟨y,hy,e⟩:∃ y,y∈ps∧x.1=sx y:=by
    have:=List.of_mem_zip hx
    obtain ⟨y,hy,e⟩:=List.mem_map.mp this.1
    exact ⟨y,hy,e.symm⟩
   rcases hp.par y hy with ⟨e1,_⟩ | ⟨e1,e2⟩
   ·exact .inl (by rw [e]; exact e1)
   ·exact .inr ⟨by rw [e]; exact e1,by rw [e]; exact hp.cell _ _ e2⟩
  ·intro s₁ x
   obtain ⟨h₁,tk₁,rfl⟩:=x.toInCall.same
   have kp:C5 h h₁:=x.toInCall.keep
   have hnd:(((ps.map sx).zip vs).map (·.1)).Nodup:=by
    rw [List.map_fst_zip (by rw [List.length_map,hvl]; exact Nat.le_refl _)]
    exact List.Pairwise.map sx (fun a b hab z=>hab (E4 z)) hp.nodup
   have mem:∀ y,y∈ps→∀ v,(sx y,v)∈(ps.map sx).zip vs→v∈vs:=fun y _ v hm=>(List.of_mem_zip hm).2
   generalize hE:callEnvC (fnOf name qual params body sc .none .none doc pm none cd ct) h.objs.size a=env at x ⊢
   have e1:env.scope=sc:=by rw [← hE]; rfl
   have e2:env.locals=h.objs.size:=by rw [← hE]; rfl
   have e3:env.globals=mainGlobals:=by rw [← hE]; rfl
   have e4:env.builtins=builtinsNs:=by rw [← hE]; rfl
   have e5:env.cells=cellsFrom (h.objs.size + 1) sc.names []:=by rw [← hE]; rfl
   have ek:∀ y:Str,env.kindOf y=sc.names.lookup y:=fun y=>by show env.scope.names.lookup y=_; rw [e1]
   have dead:∀ b:Nat,h.objs.size≤b→h.get? b=none:=fun b hb=>Heap.get?_none_of_le hb
   have cellLt:∀ y b,env.cells.lookup y=some b→@LT.lt Nat _ h.objs.size b:=fun y b e=>by
    have:=x.above y b (mem_of_lookup e)
    rw [e2] at this; exact this
   have hS:St c ρ ⟨sc,cs,[],[]⟩ σ env (Dc ps avs) h₁:=by
    refine ⟨S₀.keep kp,⟨_,x.toInCall.ns,fun y av' hy=>?_⟩,fun b hb=>?_,fun b hb=>?_,fun y hy=>?_,fun y i hy=>(by cases hy),⟨by rw [e1]; exact hp.kind,by rw [e1],e3,e4,fun y z b g1 g2=>?_,fun y b g=>?_⟩⟩
    ·obtain ⟨v,hm,hv⟩:=Tj hr hy
     have hyps:y∈ps:=by
      obtain ⟨z,hz,e⟩:=List.mem_map.mp (List.of_mem_zip hm).1
      exact E4 e ▸ hz
     refine ⟨v,hv.mono (Ext.refl _ _) (C5.old kp),?_⟩
     obtain ⟨b1,b2⟩:=O3 env.kindOf _ (fun _=>none) (fun _=>none) _ _ hnd hm
     rcases hp.par y hyps with ⟨g1,g2⟩ | ⟨g1,g2⟩
     ·exact .inl ⟨g2,by simp,b1 (by rw [ek]; exact g1)⟩
     ·obtain ⟨b,hb⟩:=Option.isSome_iff_exists.mp (hp.cell (h.objs.size + 1) y g2)
      rw [← e5] at hb
      refine .inr ⟨.inl g2,b,hb,?_⟩
      have:=x.cell _ _ hb
      rw [b2 (by rw [ek,g1]; intro z; cases z)] at this
      exact this
    ·rcases hb with rfl | ⟨y,hy,hb⟩
     ·obtain ⟨o,_,_,ho,_⟩:=x.toInCall.ns
      exact ⟨by rw [e2]; exact S₀.fresh_notMut (Cc h),by rw [e2]; exact S₀.big,o,ho⟩
     ·obtain ⟨o,ho,_⟩:=x.cell _ _ hb
      have:=cellLt _ _ hb
      have hbig:=S₀.big
      exact ⟨S₀.fresh_notMut (dead b (Nat.le_of_lt this)),by lia,o,ho⟩
    ·obtain ⟨y,hy,_⟩:=hb; cases hy
    ·obtain ⟨b,hb⟩:=Option.isSome_iff_exists.mp (hp.cell (h.objs.size + 1) y hy)
     rw [← e5] at hb
     exact ⟨b,_,hb,x.cell _ _ hb⟩
    ·exact name_of_addr x.apart (mem_of_lookup g1) (mem_of_lookup g2)
    ·have:=cellLt _ _ g
     rw [e2]; exact Nat.ne_of_gt this
   refine hb c env σ _ fl m' _ h1 _ ρ h₁ d _ os _ _ (r.deeper env) hS fun f h' tk' ρ' hf e o S'=>?_
   have eA:Ext ρ ρ' h:=(Ext.refl ρ h).trans e (C5.old kp).live
   have oA:Old ρ h h':=fun b ob e' np=>o.2 b ob (kp b ob e') np fun hown=>by
    rcases hown with rfl | ⟨y,_,g⟩
    ·rw [e2,Cc h] at e'; cases e'
    ·rw [dead b (Nat.le_of_lt (cellLt _ _ g))] at e'; cases e'
   cases fl with
   | next=>cases hf; exact q _ _ _ ⟨ρ',eA,oA,S'.sat,rfl⟩
   | ret av=>obtain ⟨v,rfl,hv⟩:=hf; exact q _ _ _ ⟨ρ',eA,oA,S'.sat,hv⟩
 ·cases hf
section
noncomputable def Az (f:Fd) (ds:Ds):D:=fun m σ=>(ds m σ).bind fun p=>f p.1 p.2
section
variable {k:Nat} {fi:Fi} {pos pos':Pos}
end
end
section
theorem Xx {c:Cx} {ρ:Pl} {σ:AS} {h:Heap} (S:Sat c ρ σ h):(K0 c.w.params).In h:=fun a o e=>S.base _ _ (c.kin a o e)
noncomputable def Zl (C:Addr) (nm:List AVal→AS→Option Id) (f:Fd):Fd:=fun avs σ=>(nm avs σ).bind fun i=>(σ.born i (.inst C [])).bind fun σ₀=>(f (.id i :: avs) σ₀).bind fun p=>match p.1 with
 | .none=>some (.id i,p.2)
 | _=>none
theorem Sw (args:Args):(Code.builtin "type.__call__" args).frames=0:=by kernel_rfl
theorem Sy (C:Addr) (vs:List Value):(Code.builtin "type.__call__" ⟨.ref C :: vs,[]⟩).weight=1:=by kernel_rfl
theorem Room.new {A:Around} {k:Nat} (r:Room A (k + 1)) (C:Addr) (vs:List Value):Room (A.under (.builtin "type.__call__" ⟨.ref C :: vs,[]⟩)) k:=by
 refine ⟨r.hh,?_,?_⟩
 ·have:=r.dep
  show A.depth + (Code.builtin "type.__call__" ⟨.ref C :: vs,[]⟩).weight + 2 * k≤900
  rw [Sy]; lia
 ·have:=r.un
  show A.units + (1 + 3 * (Code.builtin "type.__call__" ⟨.ref C :: vs,[]⟩).frames) + 32 * k≤9000
  rw [Sw]; lia
theorem Kb {k:Nat} {C fI:Addr} {nm:List AVal→AS→Option Id} {f:Fd} (hC:(Mm C).isSome=true) (hm:∀ P,makesIn (K0 P) C=true) (hi:∀ P,findIn (K0 P) (.ref C) "__init__" = some (some (.ref fI))) (ht:∀ P,typeIn (K0 P) (.ref fI)=some (.type "function"))
  (hf:Be k fI f):Be (k + 1) C (Zl C nm f):=by
 intro c σ avs av σ' hD A ρ h d tk os vs R r S hr q
 obtain ⟨i,h1,h2⟩:=bind_some hD
 obtain ⟨σ₀,h3,h4⟩:=bind_some h2
 obtain ⟨⟨w,σ₁⟩,h5,h6⟩:=bind_some h4
 obtain ⟨h7,rfl⟩:=Kd h3
 dsimp only at h6
 split at h6
 ·cases h6
  have X:=Xx S
  refine make_core (makes_of X (hm _)) (looks_findIn X (hi _)) (fun self=>bind_fn X self (ht _)) (.inl rfl) ?_
  have kp:C5 h ((h.push emptyDict).push (instObj C h.objs.size)):=(C5.push h _).trans (C5.push _ _)
  have z1:h.get? (h.objs.size + 1)=none:=Heap.get?_none_of_le (Nat.le_succ _)
  have hx:((h.push emptyDict).push (instObj C h.objs.size)).get? (h.objs.size + 1)=some (instObj C h.objs.size):=by
   have:=Heap.get?_push_size (h.push emptyDict) (o:=instObj C h.objs.size) rfl
   rwa [Heap.size_push] at this
  have hdx:((h.push emptyDict).push (instObj C h.objs.size)).get? h.objs.size=some emptyDict:=Heap.get?_push_of_some _ (Heap.get?_push_size h rfl)
  have hns:((h.push emptyDict).push (instObj C h.objs.size)).Ns1 h.objs.size (fun J=>none):=Heap.Ns1.of_empty ⟨_,#[],_,hdx,rfl,fun e he=>absurd he (by simp),fun J=>rfl⟩
  obtain ⟨S₂,e₂⟩:=S.new h7 kp (p:=(h.objs.size + 1,h.objs.size)) ⟨z1,by have:=S.big; lia⟩ ⟨Cc h,S.big⟩ (o:=.inst C [])
   ⟨Nat.succ_ne_self _,hC,hx,_,hns,fun y hy=>absurd rfl hy,by simp,fun n av e=>by cases e⟩
  refine hf c _ (.id i :: avs) .none σ' h5 _ _ _ d tk os (.ref (h.objs.size + 1) :: vs) _ (r.new C vs) S₂ ⟨_,vs,rfl,⟨_,B8 ..,rfl⟩,Bm.mono e₂ (C5.old kp) hr⟩ fun v h' tk' D=>?_
  obtain ⟨ρ₃,e₃,o₃,S₃,hv⟩:=D
  cases hv
  exact ⟨rfl,q _ _ _ ⟨ρ₃,e₂.trans e₃ (C5.old kp).live,(C5.old kp).trans e₂ o₃,S₃,_,e₃.pl _ _ (B8 ..),rfl⟩⟩
 ·cases h6
section
variable {k:Nat} {fi:Fi} {pos pos':Pos}
set_option tactic.hygienic true in
theorem Ac3 {x:String} {a:Addr} {e:Expr} {es:List Expr} {ds:Ds} {f:Fd} (hx:Km fi x=true) (hg:Cm x (.base a)) (hf:Be k a f) (hk:∀ P,keepIn (K0 P) (.ref a)=true)
  (hes:Hg k fi pos (e :: es) ds) (hst:∀ env:Env,starEach (e :: es) env=(false,eval e env) :: starEach es env:=by intro _; rfl) (hpl:∀ env:Env,(backTo pos (starEach es env)).any (·.1)=false:=by intro _; rfl) :
  Cf k fi (.Call (.Name (Str.ofString x) pos') (e :: es) [] pos) (Az f ds):=by
 intro c env σ m av σ' hD A ρ h d tk os Q E r S q
 obtain ⟨⟨avs,σ₁⟩,h1,h2⟩:=bind_some hD
 refine wpAny_Call_Name_kw (Bl (k:=k) hx hg c env σ m (.base a) σ rfl A ρ h d tk os _ E r S fun v h₁ tk₁ D=>?_)
 obtain ⟨ρ₁,e₁,o₁,S₁,hv⟩:=D
 cases hv
 refine callWith_K (h₀:=h₁) (Xx S₁) (hk _) (hes c env σ m avs σ₁ h1 A ρ₁ h₁ d tk₁ os _ E r (S.next e₁ o₁ S₁) fun vs ρ₂ h₂ tk₂ e₂ o₂ S₂ hr=>⟨Xx S₂,?_⟩) (hst env) (hpl env)
 exact hf.call h2 r S₂ hr fun v h' tk' D=>q _ _ _ (.after e₁ o₁ (.after e₂ o₂ D))
theorem Rq {x:String} {a:Addr} {f:Fd} (hx:Km fi x=true) (hg:Cm x (.base a)) (hf:Be k a f) (hk:∀ P,keepIn (K0 P) (.ref a)=true) :
  Cf k fi (.Call (.Name (Str.ofString x) pos') [] [] pos) (fun _ σ=>f [] σ):=by
 intro c env σ m av σ' hD A ρ h d tk os Q E r S q
 refine wpAny_Call_Name_kw (Bl (k:=k) hx hg c env σ m (.base a) σ rfl A ρ h d tk os _ E r S fun v h₁ tk₁ D=>?_)
 obtain ⟨ρ₁,e₁,o₁,S₁,hv⟩:=D
 cases hv
 refine callWith_K0 (Xx S₁) (hk _) ?_
 exact hf.call hD r S₁ rfl fun v h' tk' D=>q _ _ _ (.after e₁ o₁ D)
end
end
section
noncomputable abbrev Mt:=AS→AVal→List AVal→Option (AVal×AS)
noncomputable def Kz (id:String) (f:Mt):Prop:=∀ {c:Cx} {ρ:Pl} {σ σ':AS} {h:Heap} {ov av:AVal} {avs:List AVal} {v:Value} {vs:List Value} {A:Around} {k:Nat} {d:Drawn} {tk:Tok} {os:OsState} {Q:Value→Shared→Prop} {E:Value→Shared→Prop},
 Sat c ρ σ h→Room A k→Ce ρ h ov v→Bm ρ h avs vs→f σ ov avs=some (av,σ')→(∀ w h' tk',Ends c ρ h av σ' w h'→Q w ⟨h',#[],d,tk',os⟩)→wpAny c.M A (PySem.call (.builtin id) (v :: vs)) Q E ⟨h,#[],d,tk,os⟩
noncomputable def AS.kindOf (σ:AS):AVal→Option String
 | .id i=>match σ.R i with
  | some (.list _)=>some "list"
  | some (.sdict _)=>some "dict"
  | some (.qdict _)=>some "dict"
  | _=>none
 | _=>none
theorem Ald {c:Cx} {ρ:Pl} {σ:AS} {h:Heap} {ov:AVal} {v:Value} {T:String} (S:Sat c ρ σ h) (hv:Ce ρ h ov v) (hk:σ.kindOf ov=some T):∃ a o,v=.ref a∧h.get? a=some o∧o.cls=.type T∧o.dict=none:=by
 unfold AS.kindOf at hk
 (set_option tactic.hygienic true in split at hk)
 ·rename_i i
  obtain ⟨p,hp,rfl⟩:=hv
  (set_option tactic.hygienic true in split at hk)
  ·rename_i xs hi
   cases hk
   obtain ⟨p',hp',e,vs,⟨n,ho⟩,_⟩:=S.objs i _ hi
   obtain rfl:=Option.some.inj (hp.symm.trans hp')
   exact ⟨_,_,rfl,ho,rfl,rfl⟩
  ·rename_i es hi
   cases hk
   obtain ⟨p',hp',e,kvs,hd,_⟩:=S.objs i _ hi
   obtain rfl:=Option.some.inj (hp.symm.trans hp')
   obtain ⟨o,_,_,ho,hx,_⟩:=hd.mapOf
   exact ⟨_,o,rfl,ho,hx.1,hx.2.1⟩
  ·rename_i q hi
   cases hk
   obtain ⟨p',hp',ho⟩:=S.objs i _ hi
   obtain rfl:=Option.some.inj (hp.symm.trans hp')
   cases q with
   | none=>obtain ⟨_,n,ho⟩:=ho; exact ⟨_,_,rfl,ho,rfl,rfl⟩
   | some q=>obtain ⟨_,n,w,ho,_⟩:=ho; exact ⟨_,_,rfl,ho,rfl,rfl⟩
  ·cases hk
 ·cases hk
noncomputable def Ed (T:String) (f:Mt) (dob:D) (ds:Ds):D:=fun m σ=>(dob m σ).bind fun p=>if p.2.kindOf p.1=some T then (ds m p.2).bind fun q=>f q.2 p.1 q.1 else none
section
variable {k:Nat} {fi:Fi} {pos apos:Pos}
theorem Afw {o:Expr} {name:Str} {es:List Expr} {T id:String} {f:Mt} {dob:D} {ds:Ds} (pa:PlainAttrs T) (slot:Slot T name id) (hty:typeOf (.builtin id)=pure (.type "method_descriptor")) (ok:Kz id f)
  (ho:Cf k fi o dob) (hes:Hg k fi pos es ds) (hb:∀ (env:Env) w,attributeBase o name env w=w:=by intro _ _; rfl)
  (hfew:∀ env:Env,((backTo pos (starEach es env)).all (fun x=>!x.1) && (backToKw pos (keywordEach [] env)).all (fun x=>x.1.isSome) && decide (es.length + ([]:List Keyword).length + (if ([]:List Keyword).isEmpty then 0 else 1) < 30))=true:=by intro _; rfl)
  (hline:(apos.endLine == pos.line)=true:=by rfl) (hpl:∀ env:Env,(backTo pos (starEach es env)).any (·.1)=false:=by intro _; rfl)
  (hnil:∀ env:Env,es=[]∨∃ x r,backTo pos (starEach es env)=(false,x) :: r:=by intro _; first | exact .inl rfl | exact .inr ⟨_,_,rfl⟩) :
  Cf k fi (.Call (.Attribute o name apos) es [] pos) (Ed T f dob ds):=by
 intro c env σ m av σ' hD A ρ h d tk os Q E r S q
 obtain ⟨⟨ov,σ₁⟩,h1,h2⟩:=bind_some hD
 dsimp only at h2
 (set_option tactic.hygienic true in split at h2)
 ·rename_i hk
  obtain ⟨⟨avs,σ₂⟩,h3,h4⟩:=bind_some h2
  refine wpAny_Call_method_late (hb env _) (hfew env) hline rfl (ho c env σ m ov σ₁ h1 A ρ h d tk os _ E r S fun v h₁ tk₁ D=>?_)
  obtain ⟨ρ₁,e₁,o₁,S₁,hv⟩:=D
  obtain ⟨a,ob,rfl,g1,g2,g3⟩:=Ald S₁ hv hk
  refine ⟨T,id,pa,slot,hty,⟨ob,g1,g2⟩,fun b e=>by cases e; exact ⟨ob,g1,g3⟩,Calls.callWith_builtin (hpl env) ?_⟩
  have args:∀ {R:Args→Shared→Prop},(∀ vs ρ₂ h₂ tk₂,Ext ρ₁ ρ₂ h₁→Old ρ₁ h₁ h₂→Sat c ρ₂ σ₂ h₂→Bm ρ₂ h₂ avs vs→R ⟨vs,[]⟩ ⟨h₂,#[],d,tk₂,os⟩)→wpAny c.M A (evalArgs (.builtin id) true (backTo pos (starEach es env)) []) R E ⟨h₁,#[],d,tk₁,os⟩:=by
   intro R hR
   have walk:=hes c env σ₁ m avs σ₂ h3 A ρ₁ h₁ d tk₁ os (fun vs s'=>R ⟨vs,[]⟩ s') E r (S.next e₁ o₁ S₁) hR
   rcases hnil env with rfl | ⟨x,rr,hx⟩
   ·unfold evalArgs
    show wpAny c.M A (spliced (backTo pos (starEach [] env)) >>= _) R E _
    refine wpAny_bind (wpAny_mono walk (fun vs s' h'=>?_) fun _ _ x=>x)
    refine wpAny_holding ?_
    exact wpAny_bind (wpAny_pure (wpAny_bind (wpAny_pure (wpAny_pure h'))))
   ·rw [hx] at walk ⊢
    exact Calls.evalArgs_plain walk
  refine args fun vs ρ₂ h₂ tk₂ e₂ o₂ S₂ hr=>?_
  exact ok S₂ r (hv.mono e₂ o₂) hr h4 fun w h₃ tk₃ D=>q _ _ _ (.after e₁ o₁ (.after e₂ o₂ D))
 ·cases h2
end
noncomputable def Ck:Mt:=fun σ ov avs=>match ov,avs with
 | .id i,[x]=>match σ.R i with
  | some (.list xs)=>if xs.length < 1000000 then some (.none,σ.set i (.list (xs++[x]))) else none
  | _=>none
 | _,_=>none
theorem Bm.append {ρ:Pl} {h:Heap}:∀ {xs ys:List AVal} {vs ws:List Value},Bm ρ h xs vs→Bm ρ h ys ws→Bm ρ h (xs++ys) (vs++ws)
 | [],_,_,_,r,s=>by cases r; exact s
 | _ :: _,_,_,_,⟨v,r,e,h1,h2⟩,s=>by subst e; exact ⟨v,_,rfl,h1,h2.append s⟩
theorem Nr {c:Cx} {ρ:Pl} {σ:AS} {h h':Heap} {i:Id} {p:Nat×Nat} {xs ys:List AVal} {ws:List Value} (S:Sat c ρ σ h) (hp:ρ.pl i=some p) (e:p.2=p.1) (hs:Heap.SameBut p.1 h h') (hl:h'.PlainList p.1 ws.toArray) (hlen:ws.length≤1000000)
  (r:Old ρ h h'→Bm ρ h' ys ws):Sat c ρ (σ.set i (.list ys)) h'∧Old ρ h h':=by
 have hk:∀ b o,h.get? b=some o→b≠p.1→b≠p.2→h'.get? b=some o:=fun b o e1 n1 J=>(hs.2 b n1).trans e1
 have hold:Old ρ h h':=fun b x e hn=>hk b x e (fun q=>hn ⟨i,p,hp,.inl q⟩) (fun q=>hn ⟨i,p,hp,.inr q⟩)
 exact S.change hp hk (o:=.list ys) ⟨e,ws,hl,hlen,r hold⟩
theorem Ex:Kz "list.append" Ck:=by
 intro c ρ σ σ' h ov av avs v vs A k d tk os Q E S r hv hr hf q
 unfold Ck at hf
 (set_option tactic.hygienic true in split at hf)
 ·rename_i i x
  (set_option tactic.hygienic true in split at hf)
  ·rename_i xs hi
   (set_option tactic.hygienic true in split at hf)
   ·rename_i hlen
    cases hf
    obtain ⟨p,hp,rfl⟩:=hv
    obtain ⟨y,_,rfl,hy,e0⟩:=hr
    cases e0
    obtain ⟨p',hp',e,us,hl,hle,hu⟩:=S.objs i _ hi
    obtain rfl:=Option.some.inj (hp.symm.trans hp')
    refine wpAny_list_append_plain hl (fun h' hl' hs=>?_) (by rw [List.size_toArray,sizeLine_eq]; lia)
    obtain ⟨S',o'⟩:=Nr (xs:=xs) (ys:=xs++[x]) (ws:=us++[y]) S hp e hs (by simpa using hl') (by have:=hu.len; simp; lia) fun o'=>(Bm.mono (Ext.refl _ _) o' hu).append ⟨y,[],rfl,hy.mono (Ext.refl _ _) o',rfl⟩
    exact q _ _ _ ⟨ρ,Ext.refl _ _,o',S',rfl⟩
   ·cases hf
  ·cases hf
 ·cases hf
end
noncomputable def Adt:Mt:=fun σ ov avs=>match ov,avs with
 | .id i,[]=>match σ.R i with
  | some (.list xs)=>(xs.getLast?).map fun x=>(x,σ.set i (.list xs.dropLast))
  | _=>none
 | .id i,[.int 0]=>match σ.R i with
  | some (.list (x :: xs))=>some (x,σ.set i (.list xs))
  | _=>none
 | _,_=>none
theorem Rn {h:Heap} {D:Addr} {its its':Array Value} {n:Nat} (hl:h.get? D=some { cls:=.type "list",data:=.seq its n }) (f:Array Value→Array Value) (he:f its=its'):(h.update D (Obj.mapSeq f)).PlainList D its':=by
 have q:=PySem.IsL.update hl f
 rw [he] at q
 exact ⟨_,q⟩
theorem Bm.last {ρ:Pl} {h:Heap} {xs:List AVal} {x:AVal} {vs:List Value} (r:Bm ρ h xs vs) (hx:xs.getLast?=some x):∃ p y,vs=p++[y]∧Ce ρ h x y∧Bm ρ h xs.dropLast p:=by
 obtain ⟨ys,rfl⟩:=List.getLast?_eq_some_iff.mp hx
 rw [List.dropLast_concat]
 induction ys generalizing vs with
 | nil =>
  obtain ⟨v,w,e,h1,h2⟩:=r
  cases h2
  exact ⟨[],v,e,h1,rfl⟩
 | cons z ys ih =>
  obtain ⟨v,w,e,h1,h2⟩:=r
  obtain ⟨p,y,rfl,h3,h4⟩:=ih h2 (by simp)
  exact ⟨v :: p,y,e,h3,v,p,rfl,h1,h4⟩
theorem Ait:Kz "list.pop" Adt:=by
 intro c ρ σ σ' h ov av avs v vs A k d tk os Q E S r hv hr hf q
 unfold Adt at hf
 (set_option tactic.hygienic true in split at hf)
 ·rename_i i
  (set_option tactic.hygienic true in split at hf)
  ·rename_i xs hi
   obtain ⟨x,hx,e⟩:=B0 hf
   cases e
   cases hr
   obtain ⟨p,hp,rfl⟩:=hv
   obtain ⟨p',hp',e,us,⟨n,hl⟩,hle,hu⟩:=S.objs i _ hi
   obtain rfl:=Option.some.inj (hp.symm.trans hp')
   obtain ⟨w,y,rfl,hy,hw⟩:=hu.last hx
   have hz':(w++[y]).toArray.size≤sizeLine:=by rw [List.size_toArray,sizeLine_eq]; lia
   have hk:(w++[y]).toArray.size - 1=w.length:=by rw [List.size_toArray,List.length_append]; rfl
   have hg:(w++[y]).toArray[(w++[y]).toArray.size - 1]?=some y:=by rw [hk]; simp
   have her:(w++[y]).toArray.eraseIdxIfInBounds ((w++[y]).toArray.size - 1)=w.toArray:=by rw [hk,kl_erase,List.append_nil]
   obtain ⟨S',o'⟩:=Nr (xs:=xs) (ys:=xs.dropLast) (ws:=w) S hp e (Heap.SameBut.update h p.1 _) (Rn hl (fun xs=>xs.eraseIdxIfInBounds ((w++[y]).toArray.size - 1)) her) (by simp at hle; lia) fun o'=>Bm.mono (Ext.refl _ _) o' hw
   refine call_meets PySem.F.slot_list_pop ⟨_,hl,rfl⟩ PySem.F.entry_list_pop (PySem.F.args_list_pop_1 _) (PySem.MeetsSeq.list_pop_last p.1 _ n y hg hz') ⟨hl,q _ _ _ ⟨ρ,Ext.refl _ _,o',S',hy.mono (Ext.refl _ _) o'⟩⟩
  ·cases hf
 ·rename_i i
  (set_option tactic.hygienic true in split at hf)
  ·rename_i x xs hi
   cases hf
   obtain ⟨z,_,rfl,⟨t,rfl⟩,e0⟩:=hr
   cases e0
   obtain ⟨p,hp,rfl⟩:=hv
   obtain ⟨p',hp',e,us,⟨n,hl⟩,hle,y,w,rfl,hy,hw⟩:=S.objs i _ hi
   obtain rfl:=Option.some.inj (hp.symm.trans hp')
   have hz':(y :: w).toArray.size≤sizeLine:=by rw [List.size_toArray,sizeLine_eq]; lia
   have her:(y :: w).toArray.eraseIdxIfInBounds 0=w.toArray:=kl_erase [] w y
   obtain ⟨S',o'⟩:=Nr (xs:=[]) (ws:=w) S hp e (Heap.SameBut.update h p.1 _) (Rn hl (fun xs=>xs.eraseIdxIfInBounds 0) her) (by simp at hle; lia) fun o'=>Bm.mono (Ext.refl _ _) o' hw
   refine call_meets PySem.F.slot_list_pop ⟨_,hl,rfl⟩ PySem.F.entry_list_pop (PySem.F.args_list_pop_2 _ _) (PySem.MeetsSeq.list_pop_at p.1 _ n 0 t 0 y rfl (by simp [seqIndex?]) (by simp) hz') ⟨hl,q _ _ _ ⟨ρ,Ext.refl _ _,o',S',hy.mono (Ext.refl _ _) o'⟩⟩
  ·cases hf
 ·cases hf
noncomputable def Q9:Mt:=fun σ ov avs=>match avs with
 | [.int x]=>(σ.lst ov).bind fun xs=>(ints? xs).bind fun l=>if x∈l then some (.int (l.idxOf x),σ) else none
 | _=>none
theorem Ye:∀ {vs:List Value} {ns:List Int},IntsAre vs ns→∀ (j:Nat) (n:Int),ns[j]?=some n→∃ t,vs[j]?=some (Value.int n t)
 | _,_,.nil,j,n,h=>by cases h
 | _,_,.cons i t r,0,n,h=>by cases h; exact ⟨t,rfl⟩
 | _,_,.cons i t r,j + 1,n,h=>by
  obtain ⟨u,hu⟩:=Ye r j n (by simpa using h)
  exact ⟨u,by simpa using hu⟩
theorem Yg:∀ {vs:List Value} {ns:List Int},IntsAre vs ns→vs.length=ns.length
 | _,_,.nil=>rfl
 | _,_,.cons _ _ r=>by simp [Yg r]
theorem Rx:∀ {vs:List Value} {ns:List Int},IntsAre vs ns→∀ v∈vs,∃ i t,v=Value.int i t
 | _,_,.nil,v,h=>by cases h
 | _,_,.cons i t r,v,h=>by
  rcases List.mem_cons.mp h with rfl | h
  ·exact ⟨i,t,rfl⟩
  ·exact Rx r v h
theorem Tv:∀ (l:List Int) (x:Int) (m:Nat),m < l.idxOf x→l[m]?≠some x
 | [],_,_,h=>by simp at h
 | y :: l,x,m,h=>by
  rw [List.idxOf_cons] at h
  by_cases q:y=x
  ·subst q; simp at h
  ·have q':(y == x)=false:=by simpa using q
   rw [q',cond_false] at h
   cases m with
   | zero=>simpa using q
   | succ m=>simpa using Tv l x m (by lia)
theorem Air:Kz "list.index" Q9:=by
 intro c ρ σ σ' h ov av avs v vs A k d tk os Q E S r hv hr hf q
 unfold Q9 at hf
 (set_option tactic.hygienic true in split at hf)
 ·rename_i x
  obtain ⟨xs,h1,h2⟩:=bind_some hf
  obtain ⟨l,h3,h4⟩:=bind_some h2
  (set_option tactic.hygienic true in split at h4)
  ·rename_i hm
   cases h4
   obtain ⟨a,us,rfl,hl,hle,hu⟩:=S.list hv h1
   obtain ⟨y,_,rfl,⟨t,rfl⟩,e0⟩:=hr
   cases e0
   have ia:=Hl hu h3
   have hlen:=Yg ia
   obtain ⟨⟨cl,dd,da,sl⟩,ho,hc,n,hd⟩:=hl
   simp only at hc hd
   subst hc hd
   let e:Value→Bool:=fun y=>match y with | .int i _=>i == x | _=>false
   have hj:l.idxOf x < l.length:=List.idxOf_lt_length_iff.mpr hm
   have hj':l.idxOf x < us.toArray.size:=by rw [List.size_toArray,hlen]; exact hj
   have at_:∀ j (hj:j < us.toArray.size),∃ n u,l[j]?=some n∧us.toArray[j]=.int n u:=by
    intro j hj
    have hjl:j < l.length:=by rw [List.size_toArray,hlen] at hj; exact hj
    obtain ⟨u,hu⟩:=Ye ia j _ (List.getElem?_eq_getElem hjl)
    refine ⟨l[j],u,List.getElem?_eq_getElem hjl,?_⟩
    have:us[j]?=some (us.toArray[j]):=by simp
    rw [this] at hu
    exact Option.some.inj hu
   refine call_meets PySem.F.slot_list_index ⟨_,ho,rfl⟩ PySem.F.entry_list_index (PySem.F.args_list_index_2 _ _)
    (SeqAt.list_indexAt a us.toArray n dd sl (.int x t) e (l.idxOf x) hj' (by rw [List.size_toArray] at hj'; lia) ?_ ?_) ⟨ho,?_,q _ _ _ (.same (av:=.int _) S ⟨_,rfl⟩)⟩
   ·obtain ⟨n',u,e1,e2⟩:=at_ _ hj'
    rw [e2]
    have:n'=x:=by
     have h5:=List.getElem_idxOf hj
     rw [List.getElem?_eq_getElem hj] at e1
     cases e1; exact h5
    simp [e,this]
   ·intro m hm' hlt
    obtain ⟨n',u,e1,e2⟩:=at_ m hm'
    rw [e2]
    have hml:m < l.length:=by lia
    rw [List.getElem?_eq_getElem hml] at e1
    cases e1
    have:=Tv l x m hlt
    rw [List.getElem?_eq_getElem hml] at this
    simpa [e] using this
   ·intro y hy
    obtain ⟨i,u,rfl⟩:=Rx ia y (by simpa using hy)
    exact SeqAt.EqAt.int_int _ _ _ _
  ·cases h4
 ·cases hf
theorem Abs (l:Addr) (items:Array Value) (n:Nat) (b:Addr) (items2:Array Value) (n2:Nat) (dd:Option Addr) (sl:Array (Option Value)) (hc0:¬(!items.isEmpty && Builtin.List.listTooLong (items.size + items2.size))=true) (hc1:items.size≤sizeLine) (hs2:items.size + items2.size≤sizeLine + 1) :
  Meets (Builtin.«list.extend» ⟨[.ref l,.ref b],[]⟩) (fun J R s=>s.heap.get? l=some { cls:=.type "list",dict:=none,data:=.seq items n,slots:=#[] }∧s.heap.get? b=some { cls:=.type "list",dict:=dd,data:=.seq items2 n2,slots:=sl }∧R (.ok (.ret Value.none)) { s with heap:=s.heap.update l (Obj.mapSeq fun x=>x++items2),toks:=s.toks }) :=
 .of_wp fun prog w A R s h=>by
  obtain ⟨hp,g,d,tk,os⟩:=s; obtain ⟨hl,hb,h⟩:=h; have f1:=PySem.AutoSeq1.idx_int; have f2:=PySem.AutoSeq1.sub_tuple_tuple; have f3:=PySem.AutoSeq1.sub_list_list; have f4:=PySem.AutoSeq1.sub_tuple_list; have f5:=PySem.AutoSeq1.sub_list_tuple;
  have hz':(items++items2).size≤sizeLine + 1:=by rw [Array.size_append]; exact hs2
  wp_walk using (wpAny_updateSeq hl rfl (hz:=hc1) (_hz':=hz')),wpAny_loadPart' hl,wpAny_loadPart' hb; exact ⟨_,rfl,h⟩
noncomputable def Nt:Mt:=fun σ ov avs=>match ov,avs with
 | .id i,[y]=>match σ.R i with
  | some (.list xs)=>(σ.lst y).bind fun ys=>if xs.length + ys.length≤1000000 then some (.none,σ.set i (.list (xs++ys))) else none
  | _=>none
 | _,_=>none
theorem Ag1:Kz "list.extend" Nt:=by
 intro c ρ σ σ' h ov av avs v vs A k d tk os Q E S r hv hr hf q
 unfold Nt at hf
 (set_option tactic.hygienic true in split at hf)
 ·rename_i i y
  (set_option tactic.hygienic true in split at hf)
  ·rename_i xs hi
   obtain ⟨ys,hy,h2⟩:=bind_some hf
   (set_option tactic.hygienic true in split at h2)
   ·rename_i hlen
    cases h2
    obtain ⟨w,_,rfl,hw,e0⟩:=hr
    cases e0
    obtain ⟨p,hp,rfl⟩:=hv
    obtain ⟨p',hp',e,us,⟨n,hl⟩,hle,hu⟩:=S.objs i _ hi
    obtain rfl:=Option.some.inj (hp.symm.trans hp')
    obtain ⟨b,ws,rfl,hb,hble,hbr⟩:=S.list hw hy
    obtain ⟨⟨cl,dd,da,sl⟩,hbo,hbc,n2,hbd⟩:=hb
    simp only at hbc hbd
    subst hbc hbd
    have l1:=hu.len
    have l2:=hbr.len
    have z1:us.toArray.size + ws.toArray.size≤1000000:=by rw [List.size_toArray,List.size_toArray]; lia
    obtain ⟨S',o'⟩:=Nr (xs:=[]) (ys:=xs++ys) (ws:=us++ws) S hp e (Heap.SameBut.update h p.1 _) (Rn hl (fun x=>x++ws.toArray) (by simp)) (by simp; lia) fun o'=>(Bm.mono (Ext.refl _ _) o' hu).append (Bm.mono (Ext.refl _ _) o' hbr)
    refine call_meets PySem.F.slot_list_extend ⟨_,hl,rfl⟩ PySem.F.entry_list_extend (PySem.F.args_list_extend_2 _ _) (Abs p.1 us.toArray n b ws.toArray n2 dd sl ?_ (by rw [sizeLine_eq]; lia) (by rw [sizeLine_eq]; lia)) ⟨hl,hbo,q _ _ _ ⟨ρ,Ext.refl _ _,o',S',rfl⟩⟩
    simp only [Bool.and_eq_true,not_and,Builtin.List.listTooLong,decide_eq_true_eq,sizeLine_eq]
    lia
   ·cases h2
  ·cases hf
 ·cases hf
inductive QrEx (c:Cx) (ρ:Pl) (h:Heap) (i:Id) (q:Option AVal) (v:Value):Prop
 | mk (p:Nat×Nat) (u:Option Value) (n:Nat) (a0:ρ.pl i=some p) (a1:p.2=p.1) (a2:v=.ref p.1) (a3:602≤p.1) (a4:h.get? p.1=some ⟨.type "dict",none,.dict (match u with | none=>#[] | some y=>#[⟨Ajp c.w,.ref 542,y⟩]) n,#[]⟩) (a5:u.isSome=q.isSome) (a6:(∀ a b,q=some a→u=some b→Ce ρ h a b)):QrEx c ρ h i q v
theorem Afh {c:Cx} {ρ:Pl} {σ:AS} {h:Heap} (S:Sat c ρ σ h) {i:Id} {q:Option AVal} (hi:σ.R i=some (.qdict q)) {v:Value} (hv:Ce ρ h (.id i) v) :
  QrEx c ρ h i q v:=by
 obtain ⟨p,hp,rfl⟩:=hv
 obtain ⟨p',hp',ho⟩:=S.objs i _ hi
 obtain rfl:p=p':=Option.some.inj (hp.symm.trans hp')
 have hlo:=(S.lo i p hp).1.1
 cases q with
 | none =>
  obtain ⟨e,n,hd⟩:=ho
  exact ⟨p,none,n,hp,e,rfl,hlo,hd,rfl,fun J J e=>by cases e⟩
 | some q =>
  obtain ⟨e,n,w,hd,hr⟩:=ho
  exact ⟨p,some w,n,hp,e,rfl,hlo,hd,rfl,fun a b e1 e2=>by cases e1; cases e2; exact hr⟩
noncomputable def Aig:Mt:=fun σ ov avs=>match ov,avs with
 | .id i,[.base a,x]=>if a=542 then (match σ.R i with
  | some (.qdict q)=>some (q.getD x,σ)
  | _=>none) else none
 | _,_=>none
theorem Aiq:Kz "dict.get" Aig:=by
 intro c ρ σ σ' h ov av avs v vs A k d tk os Q E S r hv hr hf q
 unfold Aig at hf
 (set_option tactic.hygienic true in split at hf)
 ·rename_i i a x
  (set_option tactic.hygienic true in split at hf)
  ·rename_i ha
   subst ha
   (set_option tactic.hygienic true in split at hf)
   ·rename_i q' hi
    cases hf
    obtain ⟨w1,_,rfl,h1,w2,_,rfl,h2,e0⟩:=hr
    cases e0
    cases h1
    obtain ⟨p,u,hp,e,rfl,hlo,hd,hu,hru⟩:=P9 S hi hv
    refine call_meetsIn PySem.F.slot_dict_get hd.typeIs PySem.F.entry_dict_get (PySem.F.args_dict_get_3 _ _ _) (meetsH_dict_get_default (U6 c.w) p.1 542 (Nu hlo) w2) ⟨U7 r c.w,Acm,Lm u,Aar S.base,hd,?_⟩
    have:Ce ρ h (q'.getD x) (((atKey (Lm u) Acm).map (·.2)).getD w2):=by
     cases u with
     | none =>
      cases q' with
      | none=>simpa [Lm,atKey] using h2
      | some a=>cases hu
     | some y =>
      cases q' with
      | none=>cases hu
      | some a=>simpa [Lm,atKey] using hru a y rfl rfl
    exact q _ _ _ (.same S this)
   ·cases hf
  ·cases hf
 ·cases hf
theorem Xe (f:Array DictEntry→Array DictEntry) (es:Array DictEntry) (n:Nat):∃ n',Obj.mapDictKeys f ⟨.type "dict",none,.dict es n,#[]⟩=⟨.type "dict",none,.dict (f es) n',#[]⟩:=by
 have h1:=Obj.data_mapDictKeys (o:=⟨.type "dict",none,.dict es n,#[]⟩) rfl f
 have h2:=Obj.ExactDict.mapDictKeys (o:=⟨.type "dict",none,.dict es n,#[]⟩) ⟨rfl,rfl,rfl⟩ f
 generalize Obj.mapDictKeys f ⟨.type "dict",none,.dict es n,#[]⟩=o at h1 h2
 obtain ⟨a,b,c,e⟩:=o
 obtain ⟨h3,h4,h5⟩:=h2
 simp only at h1 h3 h4 h5
 subst h1 h3 h4 h5
 exact ⟨_,rfl⟩
theorem An4 {h:Heap} {a:Addr} {n:Nat} {e:DictEntry} (ho:h.get? a=some ⟨.type "dict",none,.dict #[e] n,#[]⟩):∃ n',(h.update a (Obj.mapDictKeys fun x=>x.eraseIdxIfInBounds 0)).get? a=some ⟨.type "dict",none,.dict #[] n',#[]⟩:=by
 obtain ⟨n',hn'⟩:=Xe (fun x=>x.eraseIdxIfInBounds 0) #[e] n
 refine ⟨n',?_⟩
 rw [Heap.get?_update_self _ ho (by rw [hn']; rfl),hn']
 have:#[e].eraseIdxIfInBounds 0=#[]:=by simp [Array.eraseIdxIfInBounds]
 rw [this]
noncomputable def Ae9:Mt:=fun σ ov avs=>match ov,avs with
 | .id i,[.base a,x]=>if a=542 then (match σ.R i with
  | some (.qdict none)=>some (x,σ)
  | some (.qdict (some y))=>some (y,σ.set i (.qdict none))
  | _=>none) else none
 | _,_=>none
theorem Afe {c:Cx} {ρ:Pl} {σ:AS} {h h':Heap} {i:Id} {p:Nat×Nat} {n:Nat} (S:Sat c ρ σ h) (hp:ρ.pl i=some p) (e:p.2=p.1) (hs:Heap.SameBut p.1 h h') (hl:h'.get? p.1=some ⟨.type "dict",none,.dict #[] n,#[]⟩):Sat c ρ (σ.set i (.qdict none)) h'∧Old ρ h h' :=
 S.change hp (fun b o e1 n1 J=>(hs.2 b n1).trans e1) (o:=.qdict none) ⟨e,n,hl⟩
theorem Alm:Kz "dict.pop" Ae9:=by
 intro c ρ σ σ' h ov av avs v vs A k d tk os Q E S r hv hr hf q
 unfold Ae9 at hf
 (set_option tactic.hygienic true in split at hf)
 ·rename_i i a x
  (set_option tactic.hygienic true in split at hf)
  ·rename_i ha
   subst ha
   obtain ⟨w1,_,rfl,h1,w2,_,rfl,h2,e0⟩:=hr
   cases e0
   cases h1
   (set_option tactic.hygienic true in split at hf)
   ·rename_i hi
    cases hf
    obtain ⟨p,u,n,hp,e,rfl,hlo,ho,hu,hru⟩:=Afh S hi hv
    cases u with
    | some y=>cases hu
    | none =>
     have hT:(⟨h,#[],d,tk,os⟩:Shared).TypeIs (.ref p.1) "dict" := ⟨_,ho,rfl⟩
     refine call_meetsIn (S:=fun A R s=>s=(⟨h,#[],d,tk,os⟩:Shared)∧R (.ok (.ret w2)) s) PySem.F.slot_dict_pop hT PySem.F.entry_dict_pop (PySem.F.args_dict_pop_3 _ _ _) (.of_wp fun A R s hh=>?_) ⟨rfl,q _ _ _ (.same S h2)⟩
     obtain ⟨rfl,hh⟩:=hh
     unfold Builtin.«dict.pop»
     refine wpAny_bind ?_
     unfold Builtin.Dict.keyAndDefault
     refine wpAny_bind (wpAny_notOrdered_dict hT ?_)
     show wpAny _ _ (pure (p.1,Value.ref 542,some w2)) _ _ _
     refine wpAny_pure ?_
     have hpart:(keyPart (.ref 542)).isSome=false:=rfl
     simp only [hpart,Bool.false_eq_true,if_false]
     refine wpAny_bind (wpAny_dictEntries ho rfl (wpAny_bind (wpAny_pure ?_)))
     simp only [List.isEmpty_toArray,List.isEmpty_nil,if_true]
     refine wpAny_bind (wpAny_rule (wpAny_bind (wpAny_pure ?_)))
     simp only [Option.isNone_none,if_true]
     exact wpAny_bind (wpAny_missedRemoval_other (Nu hlo) (wpAny_bind (wpAny_rule (wpAny_pure ⟨w2,rfl,hh⟩))))
   ·rename_i y hi
    cases hf
    obtain ⟨p,u,n,hp,e,rfl,hlo,ho,hu,hru⟩:=Afh S hi hv
    cases u with
    | none=>cases hu
    | some y' =>
     have hT:(⟨h,#[],d,tk,os⟩:Shared).TypeIs (.ref p.1) "dict" := ⟨_,ho,rfl⟩
     have hyy:=hru _ _ rfl rfl
     refine call_meetsIn (S:=fun A R s=>A.units < 9800∧s=(⟨h,#[],d,tk,os⟩:Shared)∧∀ h' tk',Heap.SameBut p.1 h h'→(∃ n,h'.get? p.1=some ⟨.type "dict",none,.dict #[] n,#[]⟩)→R (.ok (.ret y')) (⟨h',#[],d,tk',os⟩:Shared)) PySem.F.slot_dict_pop hT PySem.F.entry_dict_pop (PySem.F.args_dict_pop_3 _ _ _) (.of_wp fun A R s hh=>?_)
      ⟨by have:=r.un; lia,rfl,fun h' tk' hs ⟨n',hl⟩=>?_⟩
     ·obtain ⟨hA,rfl,hh⟩:=hh
      unfold Builtin.«dict.pop»
      refine wpAny_bind ?_
      unfold Builtin.Dict.keyAndDefault
      refine wpAny_bind (wpAny_notOrdered_dict hT ?_)
      show wpAny _ _ (pure (p.1,Value.ref 542,some w2)) _ _ _
      refine wpAny_pure ?_
      have hpart:(keyPart (.ref 542)).isSome=false:=rfl
      simp only [hpart,Bool.false_eq_true,if_false]
      refine wpAny_bind (wpAny_dictEntries ho rfl (wpAny_bind (wpAny_pure ?_)))
      simp only [List.isEmpty_toArray,List.isEmpty_cons,Bool.false_eq_true,if_false]
      refine wpAny_bind ?_
      unfold Builtin.Dict.takeOut
      refine wpAny_holding ?_
      have hroom:(U6 c.w).room A.in1:=tupleKind_room_in1 (by show A.units + 1 < 9900; lia)
      refine wpAny_bind ((U6 c.w).pyHash hroom (Aar S.base) ?_)
      refine wpAny_bind (wpAny_dictFind_heap (knd:=U6 c.w) (xs:=Lm (some y')) (k:=Acm) hroom (Aar S.base) ho rfl rfl (fun x hx=>by simp only [Lm,List.mem_singleton] at hx; subst hx; exact Aar S.base) (by simp [Lm]) (fun hno=>absurd rfl (hno 0 (542,y'))) fun j z hj=>?_)
      have hjz:j=0∧z=(542,y'):=by
       cases j with
       | zero=>simp only [Lm,List.getElem?_cons_zero,Option.some.injEq,Prod.mk.injEq] at hj; exact ⟨rfl,hj.2.symm⟩
       | succ j=>simp [Lm] at hj
      obtain ⟨rfl,rfl⟩:=hjz
      refine wpAny_bind (wpAny_dictEntries (s:=⟨h,#[],d,_,os⟩) ho rfl ?_)
      refine wpAny_bind (wpAny_updateDictKeys (s:=⟨h,#[],d,_,os⟩) (hz:=by show (1:Nat)≤sizeLine; rw [sizeLine_eq]; lia) ho rfl (wpAny_pure ?_))
      simp only [Option.isNone_some,Bool.false_eq_true,if_false]
      refine wpAny_bind (wpAny_letGo (wpAny_pure ⟨y',rfl,hh _ _ (Heap.SameBut.update ..) (An4 ho)⟩))
     ·obtain ⟨S',o'⟩:=Afe S hp e hs hl
      exact q _ _ _ ⟨ρ,Ext.refl _ _,o',S',hyy.mono (Ext.refl _ _) o'⟩
   ·cases hf
  ·cases hf
 ·cases hf
section
noncomputable def V0 (f:Value) (g:Fd):Prop:=∀ {c:Cx} {ρ:Pl} {σ σ':AS} {h:Heap} {av:AVal} {avs:List AVal} {vs:List Value} {A:Around} {k:Nat} {d:Drawn} {tk:Tok} {os:OsState} {Q:Value→Shared→Prop} {E:Value→Shared→Prop},
 Sat c ρ σ h→Room A k→Bm ρ h avs vs→g avs σ=some (av,σ')→(∀ w h' tk',Ends c ρ h av σ' w h'→Q w ⟨h',#[],d,tk',os⟩)→wpAny c.M A (PySem.call f vs) Q E ⟨h,#[],d,tk,os⟩
section
variable {k:Nat} {fi:Fi} {pos pos':Pos}
theorem Ae8 {c:Cx} {ρ:Pl} {σ:AS} {env:Env} {m:B1} {h:Heap} {x:String} {f:Value} {A:Around} {d:Drawn} {tk:Tok} {os:OsState} {Q:Value→Shared→Prop} {E:Value→Shared→Prop}
  (S:St c ρ fi σ env m h) (hx:Km fi x=true) (hm:∀ P,nsIn (K0 P) mainGlobals (sx x)=some none) (hf:bootBuiltins (sx x)=some f) (hn:sx x ≠ "__name__") (q:Q f ⟨h,#[],d,tk,os⟩) :
  wpAny c.M A (eval (.Name (Str.ofString x) pos) env) Q E ⟨h,#[],d,tk,os⟩:=by
 simp only [Km,Bool.and_eq_true,Bool.not_eq_true',beq_iff_eq] at hx
 refine Calls.Name_function_global S.env.kind ((S.env.kindOf x).trans hx.1) (Calls.loadGlobal_builtin (mg:=c.mg) (mb:=c.mb) ?_ (mg_none_of c.kin c.g (hm _)) ?_ ((c.blt _ hn).trans hf) q) hx.2
 ·rw [S.env.glob]; exact c.g.keeps S.sat.base
 ·rw [S.env.blt]; exact c.b.keeps S.sat.base
theorem Akq {x id:String} {e:Expr} {es:List Expr} {ds:Ds} {g:Fd} (hx:Km fi x=true) (hm:∀ P,nsIn (K0 P) mainGlobals (sx x)=some none) (hf:bootBuiltins (sx x)=some (.builtin id)) (hn:sx x ≠ "__name__") (ok:V0 (.builtin id) g)
  (hes:Hg k fi pos (e :: es) ds) (hst:∀ env:Env,starEach (e :: es) env=(false,eval e env) :: starEach es env:=by intro _; rfl) (hpl:∀ env:Env,(backTo pos (starEach (e :: es) env)).any (·.1)=false:=by intro _; rfl) :
  Cf k fi (.Call (.Name (Str.ofString x) pos') (e :: es) [] pos) (Az g ds):=by
 intro c env σ m av σ' hD A ρ h d tk os Q E r S q
 obtain ⟨⟨avs,σ₁⟩,h1,h2⟩:=bind_some hD
 refine wpAny_Call_Name_kw (Ae8 S hx hm hf hn ?_)
 refine Calls.callWith_builtin (hpl env) ?_
 have hb:backTo pos (starEach (e :: es) env)=(false,eval e env) :: backTo pos (starEach es env):=by rw [hst]; rfl
 have walk:=hes c env σ m avs σ₁ h1 A ρ h d tk os (fun vs s'=>wpAny c.M A (PySem.call (.builtin id) vs) Q E s') E r S fun vs ρ₂ h₂ tk₂ e₂ o₂ S₂ hr=>ok S₂ r hr h2 fun v h' tk' D=>q _ _ _ (.after e₂ o₂ D)
 rw [hb] at walk ⊢
 exact Calls.evalArgs_plain walk
theorem Akr {x T:String} {e:Expr} {es:List Expr} {ds:Ds} {g:Fd} (hx:Km fi x=true) (hm:∀ P,nsIn (K0 P) mainGlobals (sx x)=some none) (hf:bootBuiltins (sx x)=some (.type T)) (hn:sx x ≠ "__name__") (ok:V0 (.type T) g)
  (hes:Hg k fi pos (e :: es) ds) (hst:∀ env:Env,starEach (e :: es) env=(false,eval e env) :: starEach es env:=by intro _; rfl) (hpl:∀ env:Env,(backTo pos (starEach es env)).any (·.1)=false:=by intro _; rfl) :
  Cf k fi (.Call (.Name (Str.ofString x) pos') (e :: es) [] pos) (Az g ds):=by
 intro c env σ m av σ' hD A ρ h d tk os Q E r S q
 obtain ⟨⟨avs,σ₁⟩,h1,h2⟩:=bind_some hD
 refine wpAny_Call_Name_kw (Ae8 S hx hm hf hn ?_)
 refine PyProof.Rows.callWith_type1 ?_ (hst env) (hpl env)
 exact hes c env σ m avs σ₁ h1 A ρ h d tk os _ E r S fun vs ρ₂ h₂ tk₂ e₂ o₂ S₂ hr=>ok S₂ r hr h2 fun v h' tk' D=>q _ _ _ (.after e₂ o₂ D)
end
noncomputable def F7:Fd:=fun avs σ=>match avs with
 | [x]=>(σ.lst x).map fun xs=>(.int xs.length,σ)
 | _=>none
theorem Io:V0 (.builtin "len") F7:=by
 intro c ρ σ σ' h av avs vs A k d tk os Q E S r hr hg q
 unfold F7 at hg
 split at hg
 ·obtain ⟨xs,hx,e⟩:=B0 hg
  cases e
  obtain ⟨v,_,rfl,hv,e0⟩:=hr
  cases e0
  obtain ⟨a,us,rfl,hl,hle,hu⟩:=S.list hv hx
  refine Calls.call_len_list hl (by rw [List.size_toArray]; lia) (q _ _ _ (.same (av:=.int _) S ⟨tk + 1,?_⟩))
  rw [List.size_toArray,hu.len]
 ·cases hg
noncomputable def okR (a:Int):Bool:=decide (-1000000000≤a) && decide (a≤1000000000)
theorem All {a:Int}:okR a=true ↔ (-1000000000≤a∧a≤1000000000):=by simp [okR]
noncomputable def Ft:Fd:=fun avs σ=>match avs with
 | [.int b]=>if okR b then some (.rng 0 b,σ) else none
 | [.int a,.int b]=>if okR a && okR b then some (.rng a b,σ) else none
 | _=>none
theorem Sat.newRng {c:Cx} {ρ:Pl} {σ:AS} {h:Heap} (S:Sat c ρ σ h) {a b:Int} {t u v:Tok} (ha:okR a=true) (hb:okR b=true) :
  Ends c ρ h (.rng a b) σ (.ref h.objs.size) (h.push { cls:=.type "range",data:=.fields #[.int a t,.int b u,.int 1 v] }):=by
 rw [All] at ha hb
 exact .kept S (C5.push _ _) ⟨_,t,u,v,rfl,S.fresh_notMut (Cc h),IsRange.new ..,ha,hb⟩
theorem Ml:V0 (.type "range") Ft:=by
 intro c ρ σ σ' h av avs vs A k d tk os Q E S r hr hg q
 unfold Ft at hg
 (set_option tactic.hygienic true in split at hg)
 ·rename_i b
  (set_option tactic.hygienic true in split at hg)
  ·rename_i hb
   cases hg
   obtain ⟨v,_,rfl,⟨t,rfl⟩,e0⟩:=hr
   cases e0
   exact call_range_1 (q _ _ _ (S.newRng (by decide) hb))
  ·cases hg
 ·rename_i a b
  (set_option tactic.hygienic true in split at hg)
  ·rename_i hb
   rw [Bool.and_eq_true] at hb
   cases hg
   obtain ⟨v,_,rfl,⟨t,rfl⟩,v',_,rfl,⟨t',rfl⟩,e0⟩:=hr
   cases e0
   exact call_range_2 (q _ _ _ (S.newRng hb.1 hb.2))
  ·cases hg
 ·cases hg
noncomputable def Acq (a:Int) (n:Nat):List AVal:=(List.range n).map fun (i:Nat)=>AVal.int (a + (i:Nat))
noncomputable def Adj:Fd:=fun avs σ=>match avs with
 | [.rng a b]=>if (b - a).toNat≤1000000 then some (.flist (Acq a (b - a).toNat),σ) else none
 | _=>none
theorem Aju {ρ:Pl} {h:Heap} {a:Int}:∀ {n:Nat} {vs:List Value},vs.length=n→(∀ (i:Nat) (v:Value),vs[i]?=some v→∃ t,v=Value.int (a + i * 1) t)→Bm ρ h (Acq a n) vs:=by
 have key:∀ (l:List Nat) (vs:List Value),l.length=vs.length→(∀ (i:Nat) (v:Value) (x:Nat),vs[i]?=some v→l[i]?=some x→∃ t,v=Value.int (a + x) t)→Bm ρ h (l.map fun (i:Nat)=>AVal.int (a + (i:Nat))) vs:=by
  intro l
  induction l with
  | nil=>intro vs hl _; cases vs with
   | nil=>rfl
   | cons v vs=>cases hl
  | cons x l ih =>
   intro vs hl H
   cases vs with
   | nil=>cases hl
   | cons v vs =>
    obtain ⟨t,rfl⟩:=H 0 v x rfl rfl
    exact ⟨_,vs,rfl,⟨t,rfl⟩,ih vs (by simpa using hl) fun i v x h1 h2=>H (i + 1) v x (by simpa using h1) (by simpa using h2)⟩
 intro n vs hl H
 refine key _ _ (by simp [hl]) fun i v x h1 h2=>?_
 have hx:x=i:=by
  have:=List.getElem?_eq_some_iff.mp h2
  obtain ⟨hi,he⟩:=this
  simpa using he.symm
 subst hx
 obtain ⟨t,e⟩:=H _ _ h1
 exact ⟨t,by rw [e,Int.mul_one]⟩
theorem Ab3 {c:Cx} {ρ:Pl} {h:Heap} {a b:Int} {v:Value} {A:Around} {k:Nat} {d:Drawn} {tk:Tok} {os:OsState} {Q:Value→Shared→Prop} {E:Value→Shared→Prop} (r:Room A k) (hv:Ce ρ h (.rng a b) v) (hn:(b - a).toNat≤1000000)
  (q:∀ h' tk' (vs:List Value) n,C5 h h'→h'.get? h.objs.size=some (Ant vs n)→vs.length=(b - a).toNat→(∀ ρ,Bm ρ h' (Acq a (b - a).toNat) vs)→Q (.ref h.objs.size) ⟨h',#[],d,tk',os⟩):wpAny c.M A (PySem.call (.type "list") [v]) Q E ⟨h,#[],d,tk,os⟩:=by
 obtain ⟨ad,t,u,w,rfl,hm,hr,⟨b1,b2⟩,b3,b4⟩:=hv
 refine call_list_range r.hh hr (small_one (by lia) (by lia) (by lia) (by lia)) (rangeSize_nat a b) (by lia) fun h' tk' acc' c' hk hS hI=>?_
 obtain ⟨hI1,hI2⟩:=hI
 refine q h' tk' acc'.toList c' hk (by simpa using hS) (by simpa using hI1) fun ρ'=>Aju (by simpa using hI1) fun i v hv=>hI2 i v (by simpa using hv)
theorem Aho:V0 (.type "list") Adj:=by
 intro c ρ σ σ' h av avs vs A k d tk os Q E S r hr hg q
 unfold Adj at hg
 (set_option tactic.hygienic true in split at hg)
 ·rename_i a b
  (set_option tactic.hygienic true in split at hg)
  ·rename_i hn
   cases hg
   obtain ⟨v,_,rfl,hv,e0⟩:=hr
   cases e0
   refine Ab3 r hv hn fun h' tk' vs n hk hl hlen hv=>q _ _ _ (.kept S hk ⟨_,vs,rfl,S.fresh_notMut (Cc h),⟨_,hl,rfl,n,rfl⟩,by lia,hv _⟩)
  ·cases hg
 ·cases hg
noncomputable def Nk (nm:AS→Option Id):Fd:=fun avs σ=>match avs with
 | [.rng a b]=>if (b - a).toNat≤1000000 then (nm σ).bind fun i=>(σ.born i (.list (Acq a (b - a).toNat))).map fun σ'=>(.id i,σ') else none
 | _=>none
theorem Af6 {nm:AS→Option Id}:V0 (.type "list") (Nk nm):=by
 intro c ρ σ σ' h av avs vs A k d tk os Q E S r hr hg q
 unfold Nk at hg
 (set_option tactic.hygienic true in split at hg)
 ·rename_i a b
  (set_option tactic.hygienic true in split at hg)
  ·rename_i hn
   obtain ⟨i,h3,h4⟩:=bind_some hg
   obtain ⟨σ₂,h5,h6⟩:=B0 h4
   cases h6
   obtain ⟨h7,rfl⟩:=Kd h5
   obtain ⟨v,_,rfl,hv,e0⟩:=hr
   cases e0
   refine Ab3 r hv hn fun h' tk' vs n hk hl hlen hv=>q _ _ _ ?_
   have hf:=Cc h
   obtain ⟨S₂,e₂⟩:=S.new h7 hk (p:=(h.objs.size,h.objs.size)) ⟨hf,S.big⟩ ⟨hf,S.big⟩ (o:=.list (Acq a (b - a).toNat)) ⟨rfl,vs,⟨n,hl⟩,by lia,hv _⟩
   exact ⟨_,e₂,hk.old,S₂,_,B8 ..,rfl⟩
  ·cases hg
 ·cases hg
noncomputable def Ak8:Fd:=fun avs σ=>match avs with
 | [.int a,.int b]=>some (.int (max a b),σ)
 | _=>none
theorem Ahp:V0 (.builtin "max") Ak8:=by
 intro c ρ σ σ' h av avs vs A k d tk os Q E S r hr hg q
 unfold Ak8 at hg
 (set_option tactic.hygienic true in split at hg)
 ·rename_i a b
  cases hg
  obtain ⟨v,_,rfl,⟨t,rfl⟩,v',_,rfl,⟨t',rfl⟩,e0⟩:=hr
  cases e0
  refine max_two_ints r.hh fun h' tk' hk=>q _ _ _ (.kept S hk (av:=.int (max a b)) ?_)
  by_cases hab:b > a
  ·rw [if_pos hab,show max a b=b by lia]; exact ⟨_,rfl⟩
  ·rw [if_neg hab,show max a b=a by lia]; exact ⟨_,rfl⟩
 ·cases hg
end
section
noncomputable abbrev U5 (n:Nat):Obj:=⟨.type "dict",none,.dict #[] n,#[]⟩
theorem Gm {c:Cx} {h:Heap} {a:Addr} {n:Nat} (e:h.get? a=some (U5 n)):h.DictAt (PySem.strKind pw c.w) a [] n :=
 ⟨_,#[],e,⟨rfl,rfl,rfl⟩,rfl,fun J h=>by simp at h,.nil,List.nodup_nil⟩
theorem Agp {c:Cx} {A:Around} {E:Value→Shared→Prop} {s:Shared} {d:Addr} {n:Nat} {Q:Bool→Shared→Prop} (ho:s.heap.get? d=some (U5 n)) (h:Q false s):wpAny c.M A (Builtin.List.listLengthHint (.ref d)) Q E s:=by
 have hT:s.TypeIs (.ref d) "dict" := ⟨_,ho,rfl⟩
 unfold Builtin.List.listLengthHint
 refine wpAny_bind (wpAny_specialOf hT PySem.F.slot_dict_len.lookup ?_)
 generalize hid:("dict.__len__" : String)=id0
 wp_delta
 rw [show splitId id0=some ("dict", "__len__") from by subst hid; decide +kernel]
 subst hid
 refine wpAny_bind (wpAny_isInstance (T := "dict") (b:=true) ⟨_,ho,rfl⟩ (by rw [isSubtype_type]; kernel_rfl) ?_)
 refine wpAny_ite_split (fun hab=>absurd hab (by decide)) (fun J=>?_)
 refine wpAny_ite_split (fun J=>?_) (fun hab=>absurd (by decide +kernel) hab)
 refine wpAny_bind (wpAny_typeOf hT ?_)
 exact wpAny_pure h
theorem Zi {c:Cx} {A:Around} {E:Value→Shared→Prop} {s:Shared} {d:Addr} {n:Nat} {Q:List Value→Shared→Prop} (hh:A.handled=none) (hs:((d:Addr) == sysModules)=false) (ho:s.heap.get? d=some (U5 n))
  (h:∀ h' tk',C5 s.heap h'→Q [] { s with heap:=h',toks:=tk' }):wpAny c.M A (collect (.ref d)) Q E s:=by
 unfold collect
 refine wpAny_bind (wpAny_runValue (codeAny_builtin entry_proto_collect' ?_))
 show wpAny _ _ (do again (.builtin "list.__iadd__" ⟨[← newList [],.ref d],[]⟩)) _ _ s
 refine wpAny_bind (wpAny_newList (wpAny_pure ⟨Code.quiet_builtin _ (by decide +kernel),codeAny_builtin entry_list_iadd' ?_⟩))
 show wpAny _ _ (Builtin.List.listExtendWith (.ref s.heap.objs.size) (.ref d) (.ref s.heap.objs.size)) _ _ { s with heap:=s.heap.push (seqObj "list" #[] 0) }
 unfold Builtin.List.listExtendWith
 have hne:d≠s.heap.objs.size:=Nat.ne_of_lt (Heap.lt_size ho)
 have ho':(s.heap.push (seqObj "list" #[] 0)).get? d=some (U5 n):=Heap.get?_push_of_some _ ho
 refine wpAny_bind (wpAny_typeOf (T := "dict") ⟨_,ho',rfl⟩ ?_)
 have h1:Builtin.List.listSameRef (.ref s.heap.objs.size) (.ref d)=false:=by simp [Builtin.List.listSameRef,Ne.symm hne]
 have h2:(Value.type "dict" == Value.type "list")=false:=by decide
 have h3:(Value.type "dict" == Value.type "tuple")=false:=by decide
 simp only [h1,h2,h3,Bool.or_false,Bool.false_eq_true,if_false]
 refine wpAny_bind (wpAny_pyIter_dict (knd:=PySem.strKind pw c.w) hs (Gm ho') ?_)
 refine wpAny_bind (wpAny_holding (Agp (Heap.get?_push_of_some _ ho') ?_))
 have hH:(s.heap.push (seqObj "list" #[] 0)).objs.size=s.heap.objs.size + 1:=Heap.size_push ..
 have hSI:s.heap.objs.size≠(s.heap.push (seqObj "list" #[] 0)).objs.size:=by rw [hH]; exact Nat.ne_of_lt (Nat.lt_succ_self _)
 have hS:((s.heap.push (seqObj "list" #[] 0)).push { cls:=.type "dict_keyiterator",data:=.fields #[.ref d,.int 0 0,.int 0 0,.int n 0] }).get? s.heap.objs.size=some (seqObj "list" #[] 0):=Heap.get?_push_of_some _ (Heap.get?_push_size _ rfl)
 have hdI:d≠(s.heap.push (seqObj "list" #[] 0)).objs.size:=Nat.ne_of_lt (Heap.lt_size ho')
 refine wpAny_ite_split (fun J=>?_) (fun hab=>absurd (by decide +kernel) hab)
 refine wpAny_bind (wpAny_rule ?_)
 refine wpAny_bind ?_
 show wpAny _ _ (updateSeq s.heap.objs.size (·.push .none) >>= fun J=>updateSeq s.heap.objs.size (·.pop)) _ _ _
 refine wpAny_bind (wpAny_updateSeq hS rfl ?_)
 have hS₂:=Heap.get?_update_self (Obj.mapSeq (·.push Value.none)) hS rfl
 refine wpAny_updateSeq (hz:=by seq_fits) hS₂ rfl ?_
 have hS₃:=Heap.get?_update_self (Obj.mapSeq (·.pop)) hS₂ rfl
 refine wpAny_pure ⟨plainId_quiet PySem.F.plain_extend_loop _,?_⟩
 have W:=(Walks.dictKeys (prog:=pw) (w:=c.w) (A:=A.in1) (knd:=PySem.strKind pw c.w) hh (s.heap.push (seqObj "list" #[] 0)).objs.size d hdI [] n).toS
 have oth:∀ b o,b≠s.heap.objs.size→((s.heap.push (seqObj "list" #[] 0)).push { cls:=.type "dict_keyiterator",data:=.fields #[.ref d,.int 0 0,.int 0 0,.int n 0] }).get? b=some o →
   ((((s.heap.push (seqObj "list" #[] 0)).push { cls:=.type "dict_keyiterator",data:=.fields #[.ref d,.int 0 0,.int 0 0,.int n 0] }).update s.heap.objs.size (Obj.mapSeq (·.push Value.none))).update s.heap.objs.size (Obj.mapSeq (·.pop))).get? b=some o :=
  fun b o hb e=>(Heap.get?_update_other _ _ (Ne.symm hb)).trans ((Heap.get?_update_other _ _ (Ne.symm hb)).trans e)
 refine codeAny_extend_loopS W (Nat.zero_le _) s.heap.objs.size (fun hm=>?_) (.ref s.heap.objs.size) 0 0 _ #[] _ rfl (Nat.le_refl _) ⟨⟨_,oth _ _ (Ne.symm hSI) (Heap.get?_push_size _ rfl),rfl,rfl⟩,Gm (oth _ _ hne (Heap.get?_push_of_some _ ho'))⟩ hS₃ (ItemsOf.nil _) fun s' acc' c' hm hS' hacc=>?_
 ·rcases List.mem_cons.mp hm with e | hm
  ·exact hSI e
  ·exact hne (List.mem_singleton.mp hm).symm
 ·rw [Moved.eq_with hm]
  refine wpAny_bind (wpAny_load hS' ?_)
  have hz:acc'=#[]:=by
   have:=hacc.1
   simpa using this
  subst hz
  refine wpAny_pure (h _ _ fun b o e=>?_)
  have hlt:=Heap.lt_size e
  refine hm.heap b o (fun hmem=>?_) (oth _ _ (Nat.ne_of_lt hlt) (Heap.get?_push_of_some _ (Heap.get?_push_of_some _ e)))
  rcases List.mem_cons.mp hmem with e' | hmem
  ·subst e'; exact Nat.lt_irrefl _ hlt
  ·have e2:=List.mem_singleton.mp hmem
   rw [hH] at e2
   subst e2
   exact absurd hlt (Nat.not_lt.mpr (Nat.le_succ _))
theorem Ajr {c:Cx} {ρ:Pl} {σ:AS} {h:Heap} (S:Sat c ρ σ h) {i:Id} (hi:σ.R i=some (.qdict none)) {v:Value} (hv:Ce ρ h (.id i) v):∃ p n,ρ.pl i=some p∧p.2=p.1∧v=.ref p.1∧602≤p.1∧h.get? p.1=some (U5 n):=by
 obtain ⟨p,hp,rfl⟩:=hv
 obtain ⟨p',hp',e,n,ho⟩:=S.objs i _ hi
 obtain rfl:=Option.some.inj (hp.symm.trans hp')
 exact ⟨p,n,hp,e,rfl,(S.lo i p hp).1.1,ho⟩
noncomputable def Adk:Fd:=fun avs σ=>match avs with
 | [.id i]=>match σ.R i with
  | some (.qdict none)=>some (.flist [],σ)
  | _=>none
 | _=>none
theorem Ahq:V0 (.builtin "sorted") Adk:=by
 intro c ρ σ σ' h av avs vs A k d tk os Q E S r hr hg q
 unfold Adk at hg
 (set_option tactic.hygienic true in split at hg)
 ·rename_i i
  (set_option tactic.hygienic true in split at hg)
  ·rename_i hi
   cases hg
   obtain ⟨v,_,rfl,hv,e0⟩:=hr
   cases e0
   obtain ⟨p,n,hp,e,rfl,hlo,ho⟩:=Ajr S hi hv
   refine Calls.call_function_entry kind_sorted plain_sorted entry_sorted (args_sorted1 _) ?_
   unfold Builtin.«sorted»
   refine wpAny_bind (m:=checkCount "sorted" 1 1 _) (wpAny_pure ?_)
   refine wpAny_bind (Zi r.hh (Nu hlo) ho fun h' tk' hk=>?_)
   refine wpAny_bind (wpAny_newList ?_)
   have hoL:(h'.push (seqObj "list" ([]:List Value).toArray 0)).get? h'.objs.size=some (seqObj "list" ([]:List Value).toArray 0):=Heap.get?_push_size _ rfl
   refine wpAny_bind (wpAny_holding (wpAny_call_entry slot_list_sort ⟨_,hoL,rfl⟩ entry_list_sort (list_sort_tree (ns:=[]) hoL .nil (by simp) fun out ns' a1 a2 a3=>⟨_,rfl,?_⟩) (args_list_sort _)))
   have ho':out=#[]:=by
    have:=a2.eq_nil
    subst this
    cases hq:out.toList with
    | nil=>simpa using hq
    | cons=>rw [hq] at a1; cases a1
   subst ho'
   refine wpAny_pure ⟨_,rfl,q _ _ _ (.kept S (fun b o e=>?_) (av:=.flist []) ?_)⟩
   ·have hb:h'.get? b=some o:=hk b o e
    exact (sortedHeap_old (Nat.ne_of_lt (Heap.lt_size hb)) (by rw [size_push']; exact Nat.lt_succ_of_lt (Heap.lt_size hb))).trans (Heap.get?_push_of_some _ hb)
   ·obtain ⟨e,he⟩:=sortedHeap_at (out:=#[]) hoL
    refine ⟨_,[],rfl,?_,⟨_,he,rfl,e,rfl⟩,by simp,rfl⟩
    have:h.get? h'.objs.size=none:=by
     cases hq:h.get? h'.objs.size with
     | none=>rfl
     | some o=>exact absurd (Heap.lt_size (hk _ _ hq)) (Nat.lt_irrefl _)
    exact S.fresh_notMut this
  ·cases hg
 ·cases hg
noncomputable def Z6:Mt:=fun σ ov avs=>match ov,avs with
 | .id i,[]=>match σ.R i with
  | some (.qdict none)=>some (.none,σ.set i (.qdict none))
  | _=>none
 | _,_=>none
theorem Aip:Kz "dict.clear" Z6:=by
 intro c ρ σ σ' h ov av avs v vs A k d tk os Q E S r hv hr hf q
 unfold Z6 at hf
 (set_option tactic.hygienic true in split at hf)
 ·rename_i i
  (set_option tactic.hygienic true in split at hf)
  ·rename_i hi
   cases hf
   cases hr
   obtain ⟨p,n,hp,e,rfl,hlo,ho⟩:=Ajr S hi hv
   have hD:h.DictOf (PySem.strKind pw c.w) p.1 []:=(Gm ho).dictOf
   refine call_meetsIn PySem.F.slot_dict_clear hD.typeIs PySem.F.entry_dict_clear (PySem.F.args_dict_clear_1 _) (meets_dict_clear (PySem.strKind pw c.w) p.1) ⟨[],hD,Nat.zero_le _,fun h' hm hs=>?_⟩
   obtain ⟨⟨cl,di,da,sl⟩,es,ep,ho',⟨x1,x2,x3⟩,hdat,_,hP,_⟩:=hm
   simp only at x1 x2 x3 hdat
   subst x1 x2 x3 hdat
   have hes:es=#[]:=by
    cases hq:es.toList with
    | nil=>simpa using hq
    | cons=>rw [hq] at hP; cases hP
   subst hes
   obtain ⟨S',o'⟩:=Afe S hp e hs ho'
   exact q _ _ _ ⟨ρ,Ext.refl _ _,o',S',rfl⟩
  ·cases hf
 ·cases hf
noncomputable def Ajw (dd:D):SD:=fun m σ=>(dd m σ).bind fun p=>match p.1 with
 | .id i=>match p.2.R i with
  | some (.qdict none)=>some (.next,m,p.2)
  | _=>none
 | _=>none
section
variable {k:Nat} {fi:Fi} {pos:Pos}
theorem Af1 {t it:Expr} {ss:List Stmt} {dd:D} (hi:Cf k fi it dd) (hs:∀ (env:Env) x,foldedSetIterable it env x=pure x:=by intro _ _; rfl):Mk k fi (.For t it ss [] pos) (Ajw dd):=by
 intro c env σ m fl m' σ' hS A ρ h d tk os Q E r S q
 obtain ⟨⟨av,σ₁⟩,h1,h2⟩:=bind_some hS
 dsimp only at h2
 (set_option tactic.hygienic true in split at h2)
 ·rename_i i
  (set_option tactic.hygienic true in split at h2)
  ·rename_i hR
   cases h2
   refine wpAny_For (hi c env σ m _ _ h1 A ρ h d tk os _ E r S fun v h₁ tk₁ D=>?_) (hs env)
   obtain ⟨ρ₁,e₁,o₁,S₁,hv⟩:=D
   obtain ⟨p,n,hp,e,rfl,hlo,ho⟩:=Ajr S₁ hR hv
   have St₁:=S.next e₁ o₁ S₁
   refine wpAny_pyIter_dict (knd:=PySem.strKind pw c.w) (Nu hlo) (Gm ho) ?_
   generalize hio:({ cls:=Value.type "dict_keyiterator",data:=Data.fields #[Value.ref p.1,Value.int 0 0,Value.int (([]:List (Str×Value)).length:Nat) 0,Value.int (n:Nat) 0] }:Obj)=io
   have kp:=C5.push h₁ io
   have hIo:(h₁.push io).get? h₁.objs.size=some io:=Heap.get?_push_size _ (by rw [← hio]; rfl)
   refine codeAny_forLoop_any (fun j s=>s=(⟨h₁.push io,#[],d,tk₁,os⟩:Shared)) ?_ 1 rfl
   rintro j s rfl
   have hit:(h₁.push io).IsKeyIter h₁.objs.size p.1 0 ([]:List (Str×Value)).length n:=⟨io,hIo,by rw [← hio],by rw [← hio]; rfl⟩
   refine wpAny_pyNext_dict_end (s:=⟨h₁.push io,#[],d,tk₁,os⟩) (knd:=PySem.strKind pw c.w) (kvs:=[]) r.hh hit (Gm (Heap.get?_push_of_some _ ho)) rfl fun h₃ he₃=>wpAny_execs_nil ?_
   have kk:C5 h₁ h₃:=fun b o e=>he₃ b o (Nat.ne_of_lt (Heap.lt_size e)) (kp b o e)
   exact q _ _ _ ρ₁ rfl e₁ (o₁.x.trans e₁ (C5.old kk).x) (St₁.next (Ext.refl _ _) (C5.old kk) (S₁.keep kk))
  ·cases h2
 ·cases h2
end
end
noncomputable def Ao4 (ns:List (Str×NameKind)) (names:List (Str×NameKind)):List (Str×NameKind):=names.map fun (n,k)=>if (k == .free && ns.lookup n == some .cell) then (n,.cell) else (n,k)
noncomputable def Alt (fi:Fi) (scope:Scope):Scope:={ scope with names:=Ao4 fi.sc.names scope.names }
theorem EnvOk.relabel {fi:Fi} {env:Env} (e:EnvOk fi env) (scope:Scope):PySem.relabel scope env=Alt fi scope:=by
 unfold PySem.relabel Alt Ao4
 congr 1
 refine List.map_congr_left fun x J=>?_
 obtain ⟨n,k⟩:=x
 have h1:env.kindOf n=fi.sc.names.lookup n:=by show env.scope.names.lookup n=_; rw [e.names]
 have h2:(env.scope.kind == .function)=true:=by rw [e.kind]; rfl
 simp only [h1,h2,Bool.and_true]
noncomputable def Hp (cells:List (Str×Addr)):List (Str×NameKind)→List (Str×Addr)→List (Str×Addr)
 | [],acc=>acc
 | (n,k) :: r,acc=>if k == .free then Hp cells r ((n,(cells.lookup n).getD 0) :: acc) else Hp cells r acc
theorem O6 {scope:Scope} {env:Env} (h:∀ n,(n,NameKind.free)∈scope.names→(env.cells.lookup n).isSome=true):closureFor scope env=pure (Hp env.cells scope.names []):=by
 unfold closureFor
 have key:∀ (names:List (Str×NameKind)) (acc:List (Str×Addr)),(∀ n,(n,NameKind.free)∈names→(env.cells.lookup n).isSome=true) →
   (forIn names acc fun (x:Str×NameKind) (r:List (Str×Addr))=>(match x with | (name,kind)=>if kind == .free then (do let a←cellOf env name; pure (ForInStep.yield ((name,a) :: r))) else pure (ForInStep.yield r):Sem (ForInStep (List (Str×Addr)))))=pure (Hp env.cells names acc):=by
  intro names
  induction names with
  | nil=>intro acc _; rfl
  | cons x r ih =>
   intro acc hx
   obtain ⟨n,k⟩:=x
   rw [List.forIn_cons]
   unfold Hp
   have hr:=fun acc'=>ih acc' fun n hn=>hx n (List.mem_cons_of_mem _ hn)
   by_cases hk:k=.free
   ·subst hk
    obtain ⟨a,ha⟩:=Option.isSome_iff_exists.mp (hx n List.mem_cons_self)
    have hc:cellOf env n=pure a:=by unfold cellOf; rw [ha]
    simp only [beq_self_eq_true,if_true,hc,ha,Option.getD_some,pure_bind]
    exact hr _
   ·have hk':(k == NameKind.free)=false:=by simpa using hk
    simp only [hk',Bool.false_eq_true,if_false,pure_bind]
    exact hr _
 have e:=key scope.names [] h
 exact (congrArg (fun t=>t >>= fun s=>(pure s:Sem _)) e).trans (pure_bind _ _)
theorem O5 (cells:List (Str×Addr)):∀ (names:List (Str×NameKind)) (acc:List (Str×Addr)),(∀ n,(n,NameKind.free)∈names→(cells.lookup n).isSome=true)→(∀ y a,acc.lookup y=some a→cells.lookup y=some a)→∀ y a,(Hp cells names acc).lookup y=some a→cells.lookup y=some a
 | [],acc,_,h,y,a,e=>h y a e
 | (n,k) :: r,acc,hf,h,y,a,e=>by
  unfold Hp at e
  have hr:∀ n,(n,NameKind.free)∈r→(cells.lookup n).isSome=true:=fun n hn=>hf n (List.mem_cons_of_mem _ hn)
  (set_option tactic.hygienic true in split at e)
  ·rename_i hk
   have hk':k=.free:=by simpa using hk
   subst hk'
   obtain ⟨b,hb⟩:=Option.isSome_iff_exists.mp (hf n List.mem_cons_self)
   refine O5 cells r _ hr (fun y a e=>?_) y a e
   rw [List.lookup_cons] at e
   cases hy:y == n with
   | true =>
    rw [hy] at e
    have:y=n:=by simpa using hy
    subst this
    rw [hb] at e ⊢
    simpa using e
   | false=>rw [hy] at e; exact h y a e
  ·exact O5 cells r _ hr h y a e
theorem Tz (cells:List (Str×Addr)):∀ (names:List (Str×NameKind)) (acc:List (Str×Addr)) (n:Str),((n,NameKind.free)∈names∨(acc.lookup n).isSome=true)→((Hp cells names acc).lookup n).isSome=true
 | [],acc,n,h=>by
  rcases h with h | h
  ·cases h
  ·exact h
 | (x,k) :: r,acc,n,h=>by
  unfold Hp
  (set_option tactic.hygienic true in split)
  ·refine Tz cells r _ n ?_
   by_cases hx:n=x
   ·subst hx; right; simp
   ·rcases h with h | h
    ·rcases List.mem_cons.mp h with e | h
     ·exact absurd (Prod.mk.inj e).1 hx
     ·exact .inl h
    ·right
     have:(n == x)=false:=by simpa using hx
     rw [List.lookup_cons,this]; exact h
  ·rename_i hk
   refine Tz cells r _ n ?_
   rcases h with h | h
   ·rcases List.mem_cons.mp h with e | h
    ·exact absurd (by rw [← (Prod.mk.inj e).2]; rfl) hk
    ·exact .inl h
   ·exact .inr h
theorem G0:∀ (names:List (Str×NameKind)) (n:Nat) (acc:List (Str×Addr)),cellsFrom n names acc=cellsFrom n (names.filter (·.2 == .cell)) acc
 | [],_,_=>rfl
 | (x,k) :: r,n,acc=>by
  by_cases hk:(k == NameKind.cell)=true
  ·rw [List.filter_cons_of_pos (by exact hk)]
   unfold cellsFrom
   rw [if_pos hk,if_pos hk]
   exact G0 r _ _
  ·rw [List.filter_cons_of_neg (by exact hk)]
   conv=>lhs; unfold cellsFrom
   rw [if_neg hk]
   exact G0 r _ _
theorem G2:∀ (names:List (Str×NameKind)) (h:Heap),pushCells h names=pushCells h (names.filter (·.2 == .cell))
 | [],_=>rfl
 | (x,k) :: r,h=>by
  by_cases hk:(k == NameKind.cell)=true
  ·rw [List.filter_cons_of_pos (by exact hk)]
   unfold pushCells
   rw [if_pos hk,if_pos hk]
   exact G2 r _
  ·rw [List.filter_cons_of_neg (by exact hk)]
   conv=>lhs; unfold pushCells
   rw [if_neg hk]
   exact G2 r _
noncomputable abbrev Aew:Obj:={ cls:=.type "cell",data:=.cell none }
noncomputable abbrev frO:Obj:={ cls:=.type "dict",data:=.dict #[] }
noncomputable def Lb (h:Heap):Option String→Heap
 | none=>h.push frO
 | some _=>(h.push frO).push Aew
noncomputable def El (n:Nat) (cl:List (Str×Addr)):Option String→List (Str×Addr)
 | none=>cl
 | some x=>(sx x,n + 1) :: cl
noncomputable def Zh (fi:Fi) (scope:Scope) (C:Addr) (cells:List (Str×Addr)) (env:Env):Env :=
 { scope:=Alt fi scope,locals:=C,globals:=env.globals,cells:=cells,qual:=env.qual,func:=none,code:=env.code,frame:=env.frame,builtins:=env.builtins }
theorem Ach {M:Model} {A:Around} {E:Value→Shared→Prop} {s:Shared} {fi:Fi} {scope:Scope} {cl:List (Str×Addr)} {env:Env} {own:Option String} {Q:Env→Shared→Prop} (he:EnvOk fi env)
  (hcs:scope.names.filter (·.2 == .cell)=own.toList.map fun x=>(sx x,NameKind.cell))
  (q:∀ cenv:Env,{ cenv with scope:=relabel scope env }=Zh fi scope s.heap.objs.size (El s.heap.objs.size cl own) env→cenv.locals=s.heap.objs.size→Q cenv { s with heap:=Lb s.heap own }) :
  wpAny M A (newFunctionEnv scope env.globals cl [] env.qual none .none (some env)) Q E s:=by
 simp only [newFunctionEnv,Option.isSome_some,if_true]
 refine wpAny_bind (wpAny_alloc ?_)
 refine wpAny_bind (wpAny_layCells _ (fun name kind cells=>by cases hkc:kind == NameKind.cell <;> simp [hkc]) _ _ _ _ ?_)
 refine wpAny_bind ?_
 rw [List.forIn_nil]
 refine wpAny_pure (wpAny_pure ?_)
 have hsz:(s.heap.push frO).objs.size=s.heap.objs.size + 1:=Heap.size_push ..
 have h1:cellsFrom (s.heap.objs.size + 1) scope.names cl=El s.heap.objs.size cl own:=by
  rw [G0,hcs]
  cases own <;> rfl
 have h2:pushCells (s.heap.push frO) scope.names=Lb s.heap own:=by
  rw [G2,hcs]
  cases own <;> rfl
 have q':=q { scope:=scope,locals:=s.heap.objs.size,globals:=env.globals,cells:=El s.heap.objs.size cl own,qual:=env.qual,func:=none,code:=env.code,frame:=env.frame,builtins:=env.builtins }
  (by rw [he.relabel]; rfl) rfl
 rw [← h1,← h2,← hsz] at q'
 exact q'
section
theorem Af9 {prog:Program} {w:World} {A:Around} {R:Result→Shared→Prop} {s:Shared} {elt target iter:Expr} {ifs:List Expr} {scope:Scope} {pos:Pos} {it acc:Value} {env:Env} (I:Nat→Shared→Prop)
  (turn:∀ n s,I n s→wpAny (model prog w) A (pyNext it) (fun r s₁=>match r with
   | none=>R (.ok .next) s₁
   | some v=>wpAny (model prog w) A (letOwnedTupleGo target it v) (fun J s₁=>wpAny (model prog w) A (assign target env v) (fun J s₂ =>
     wpAny (model prog w) A (forIn ifs true fun c r=>if r=true then do let ok←isTrue c env (eval c env); pure (ForInStep.yield ok) else pure (ForInStep.yield r)) (fun ok s₃ =>
      if ok=true then wpAny (model prog w) A (eval elt env) (fun x s₄ =>
       wpAny (model prog w) A (call (.builtin "list.append") [acc,x]) (fun J s₅=>∃ m,m < n∧I m s₅) (notedBy (model prog w) A env fun e s'=>R (.error e) s') s₄) (notedBy (model prog w) A env fun e s'=>R (.error e) s') s₃
      else ∃ m,m < n∧I m s₃) (notedBy (model prog w) A env fun e s'=>R (.error e) s') s₂) (notedBy (model prog w) A env fun e s'=>R (.error e) s') s₁) (notedBy (model prog w) A env fun e s'=>R (.error e) s') s₁) (notedBy (model prog w) A env fun e s'=>R (.error e) s') s)
  (n:Nat) (h:I n s) :
  codeAny (model prog w) A (.compLoop (.ListComp elt [⟨target,iter,ifs,0⟩] scope pos) 0 it acc env) R s:=by
 refine codeAny_loop rfl I (fun n s hI=>?_) n h
 show wpAny _ A ((compTurn (.ListComp elt [⟨target,iter,ifs,0⟩] scope pos) 0 it acc env).onRaise (fun x=>do noteFrame x env; theTreesLotGoes x)) _ _ s
 refine wpAny_noted ?_
 rw [compTurn_list]
 refine wpAny_bind (wpAny_standAt (wpAny_bind (wpAny_mono (turn n s hI) (fun r s₁ h₁=>?_) fun J J h'=>h')))
 cases r with
 | none=>exact wpAny_pure h₁
 | some v =>
  refine wpAny_bind (wpAny_mono h₁ (fun J s₁ h₁=>?_) fun J J h'=>h')
  refine wpAny_bind (wpAny_mono h₁ (fun J s₂ h₂=>wpAny_bind (wpAny_mono h₂ (fun ok s₃ h₃=>?_) fun J J h'=>h')) fun J J h'=>h')
  cases ok with
  | false=>exact wpAny_pure ⟨rfl,h₃⟩
  | true =>
   exact wpAny_bind (wpAny_bind (wpAny_mono h₃ (fun x s₄ h₄=>wpAny_bind (wpAny_mono h₄ (fun J s₅ h₅=>wpAny_pure (wpAny_pure ⟨rfl,h₅⟩)) fun J J h'=>h')) fun J J h'=>h'))
noncomputable def Aa9 (k:Nat) (fi:Fi) (ifs:List Expr) (bb:B):Prop:=∀ c env σ m b σ',bb m σ=some (b,σ') →
 ∀ (A:Around) (ρ:Pl) (h:Heap) (d:Drawn) (tk:Tok) (os:OsState) (Q:Bool→Shared→Prop) (E:Value→Shared→Prop),Room A k→St c ρ fi σ env m h →
  (∀ ρ' h' tk',Ext ρ ρ' h→Old ρ h h'→Sat c ρ' σ' h'→Q b ⟨h',#[],d,tk',os⟩)→wpAny c.M A (forIn ifs true fun c r=>if r=true then do let ok←isTrue c env (eval c env); pure (ForInStep.yield ok) else pure (ForInStep.yield r)) Q E ⟨h,#[],d,tk,os⟩
theorem Ni {k:Nat} {fi:Fi}:Aa9 k fi [] (Cp true):=by
 intro c env σ m b σ' hb A ρ h d tk os Q E r S q
 cases hb
 exact wpAny_tests_nil (q ρ h tk (Ext.refl _ _) (Old.refl _ _) S.sat)
theorem D0 {k:Nat} {fi:Fi} {t:Expr} {bb:B} (ht:Tl k fi t bb):Aa9 k fi [t] bb:=by
 intro c env σ m b σ' hb A ρ h d tk os Q E r S q
 exact wpAny_tests_one (ht c env σ m b σ' hb A ρ h d tk os Q E r S q)
noncomputable def Iq (av:AVal) (T:Tg) (bt:B) (el:D):Nat→Nat→List AVal→B1→AS→Option (AVal×AS)
 | 0,_,_,_,_=>none
 | n + 1,i,acc,m,σ=>(σ.its av i).bind fun r=>match r with
  | none=>some (.flist acc,σ)
  | some x=>(T x m).bind fun m₁=>(bt m₁ σ).bind fun p=>if p.1 then (el m₁ p.2).bind fun q=>Iq av T bt el n (i + 1) (acc++[q.1]) m₁ q.2 else Iq av T bt el n (i + 1) acc m₁ p.2
noncomputable def Gg (m:B1) (fr:List String):B1:=m.filter fun e=>fr.contains e.1
noncomputable def C3 (dI:D) (T:Tg) (bt:B) (el:D) (fr:List String) (n:Nat):D:=fun m σ=>(dI m σ).bind fun p=>Iq p.1 T bt el n 0 [] (Gg m fr) p.2
theorem Lj {fr:List String}:∀ {m:B1} {x:String} {av:AVal},(Gg m fr).lookup x=some av→m.lookup x=some av∧x∈fr
 | [],_,_,e=>by cases e
 | (y,w) :: r,x,av,e=>by
  unfold Gg at e
  by_cases hy:fr.contains y=true
  ·rw [List.filter_cons_of_pos (by exact hy)] at e
   rw [List.lookup_cons] at e ⊢
   cases hxy:x == y with
   | true =>
    rw [hxy] at e
    have:x=y:=by simpa using hxy
    subst this
    exact ⟨e,by simpa using hy⟩
   | false=>rw [hxy] at e; exact Lj e
  ·rw [List.filter_cons_of_neg (by exact hy)] at e
   have:=Lj (m:=r) (fr:=fr) e
   refine ⟨?_,this.2⟩
   rw [List.lookup_cons]
   have hxy:(x == y)=false:=by
    cases q:x == y with
    | false=>rfl
    | true =>
     have:x=y:=by simpa using q
     subst this
     exact absurd (by simpa using ‹_∧x∈fr›.2) hy
   rw [hxy]; exact this.1
noncomputable abbrev cfi (fi:Fi) (scope:Scope) (own:Option String) (fr:List String):Fi:=⟨Alt fi scope,own.toList,fr,[]⟩
structure CompOk (fi:Fi) (scope:Scope) (own:Option String) (fr:List String):Prop where
 kind:scope.kind=.function
 names:∀ y∈scope.names,y.2=.local→scope.names.lookup y.1=some .local
 cells:scope.names.filter (·.2 == .cell)=own.toList.map fun x=>(sx x,NameKind.cell)
 free:∀ y∈scope.names,y.2=.free→∃ x∈fr,y.1=sx x
 rd:∀ x∈fr,(sx x,NameKind.free)∈scope.names∧x∈fi.cs
 apart:∀ x∈own,x ∉ fr
noncomputable def Pl.hold (ρ:Pl) (a:Nat):Pl:=⟨ρ.pl,fun b=>ρ.X b∨b=a⟩
theorem Ext.hold {ρ:Pl} {h:Heap} {a:Nat} (ha:h.get? a=none):Ext ρ (ρ.hold a) h :=
 ⟨fun J J e=>e,fun J q=>.inl q,fun b q=>q.elim (fun q=>.inl (.inl q)) fun q=>q.elim (fun q=>.inl (.inr q)) fun q=>.inr (q ▸ ha),fun J q=>.inl q⟩
theorem Sat.hold {c:Cx} {ρ:Pl} {σ:AS} {h h':Heap} {a:Nat} (S:Sat c ρ σ h) (hk:C5 h h') (ha:h.get? a=none) (ha':∃ o,h'.get? a=some o) (hb:602≤a):Sat c (ρ.hold a) σ h':=by
 have S':=S.keep hk
 have e:Ext ρ (ρ.hold a) h:=.hold ha
 refine ⟨S'.base,S'.lo,S'.inj,fun i o q=>?_,S'.dom,S'.fresh,fun b q=>?_⟩
 ·obtain ⟨p,hp,ho⟩:=S.objs i o q
  exact ⟨p,hp,ho.mono e (C5.old hk).fz (hk _) (hk _)⟩
 ·rcases q with q | rfl
  ·exact S'.xlo b q
  ·exact ⟨hb,ha'⟩
noncomputable def Pl.free (ρ ρ':Pl):Pl:=⟨ρ'.pl,ρ.X⟩
theorem Pl.free_mut {ρ ρ':Pl} (hx:∀ a,ρ.X a→ρ'.X a) {a:Nat} (h:¬ρ'.Mut a):¬(ρ.free ρ').Mut a:=fun q=>h (q.elim .inl fun q=>.inr (hx a q))
mutual
theorem Ce.freed {ρ ρ':Pl} {h:Heap} (hx:∀ a,ρ.X a→ρ'.X a):∀ {x:AVal} {v:Value},Ce ρ' h x v→Ce (ρ.free ρ') h x v
 | .none,_,r=>r
 | .bool _,_,r=>r
 | .int _,_,r=>r
 | .str _,_,r=>r
 | .id _,_,r=>r
 | .base _,_,r=>r
 | .tup _,_,⟨a,vs,hv,hm,ha,hr⟩=>⟨a,vs,hv,Pl.free_mut hx hm,ha,Bm.freed hx hr⟩
 | .flist _,_,⟨a,vs,hv,hm,ha,hl,hr⟩=>⟨a,vs,hv,Pl.free_mut hx hm,ha,hl,Bm.freed hx hr⟩
 | .rng _ _,_,⟨a,t,u,w,hv,hm,ha⟩=>⟨a,t,u,w,hv,Pl.free_mut hx hm,ha⟩
 | .any,_,r=>r
theorem Bm.freed {ρ ρ':Pl} {h:Heap} (hx:∀ a,ρ.X a→ρ'.X a):∀ {xs:List AVal} {vs:List Value},Bm ρ' h xs vs→Bm (ρ.free ρ') h xs vs
 | [],_,r=>r
 | _ :: _,_,⟨v,r,hv,h1,h2⟩=>⟨v,r,hv,Ce.freed hx h1,Bm.freed hx h2⟩
end
theorem Hz.freed {w:World} {ρ ρ':Pl} {h:Heap} {p:Nat×Nat} (hx:∀ a,ρ.X a→ρ'.X a):∀ {o:AObj},Hz w ρ' h p o→Hz w (ρ.free ρ') h p o
 | .inst _ _,⟨a,a',b,mA,d,f,g,i⟩=>⟨a,a',b,mA,d,f,g,fun n av hn=>let ⟨v,hv,hr⟩:=i n av hn; ⟨v,hv,hr.freed hx⟩⟩
 | .list _,⟨a,vs,x,l,d⟩=>⟨a,vs,x,l,Bm.freed hx d⟩
 | .sdict _,⟨a,kvs,b,d,f⟩=>⟨a,kvs,b,d,Bm.freed hx f⟩
 | .qdict none,⟨a,n,b⟩=>⟨a,n,b⟩
 | .qdict (some _),⟨a,n,v,b,d⟩=>⟨a,n,v,b,Ce.freed hx d⟩
 | .cell _,⟨a,v,x,d⟩=>⟨a,v,x,Ce.freed hx d⟩
 | .clos,⟨ps,pw,fd,e1,e2,b,d,f,g⟩=>⟨ps,pw,fd,e1,e2,b,d,f,g⟩
theorem Sat.freed {c:Cx} {ρ ρ':Pl} {σ:AS} {h:Heap} (S:Sat c ρ' σ h) (hx:∀ a,ρ.X a→ρ'.X a):Sat c (ρ.free ρ') σ h :=
 ⟨S.base,S.lo,S.inj,fun i o q=>let ⟨p,hp,ho⟩:=S.objs i o q; ⟨p,hp,ho.freed hx⟩,S.dom,S.fresh,fun a q=>S.xlo a (hx a q)⟩
theorem Ext.freed {ρ ρ':Pl} {h:Heap} (hp:∀ i p,ρ.pl i=some p→ρ'.pl i=some p) (hu:∀ a:Nat,ρ'.Put a→ρ.Put a∨h.get? a=none):Ext ρ (ρ.free ρ') h :=
 ⟨hp,hu,fun a q=>q.elim (fun q=>(hu a q).imp .inl id) fun q=>.inl (.inr q),fun J q=>q⟩
section
variable {k:Nat} {fi:Fi} {pos:Pos}
theorem Rt (h:Heap) (own:Option String):C5 h (Lb h own):=by
 cases own with
 | none=>exact C5.push _ _
 | some x=>exact (C5.push _ _).trans (C5.push _ _)
theorem Hj {n:Nat} {cl:List (Str×Addr)} {own:Option String} {y:Str} {a:Nat} (h:(El n cl own).lookup y=some a):(∃ x∈own,y=sx x∧a=n + 1)∨cl.lookup y=some a:=by
 cases own with
 | none=>exact .inr h
 | some x =>
  unfold El at h
  rw [List.lookup_cons] at h
  cases hy:y == sx x with
  | true =>
   rw [hy] at h
   cases h
   exact .inl ⟨x,rfl,by simpa using hy,rfl⟩
  | false=>rw [hy] at h; exact .inr h
theorem Ak3 {scope:Scope} {own:Option String} {fr:List String} (ok:CompOk fi scope own fr) {c:Cx} {ρ:Pl} {σ₀ σ:AS} {env:Env} {m:B1} {h₁ h:Heap} (S₀:St c ρ fi σ₀ env m h₁) (hk:C5 h₁ h) {D:Nat} (hD:h₁.get? D=none) (S:Sat c (ρ.hold D) σ h) (hDh:∃ o,h.get? D=some o) :
  St c (ρ.hold D) (cfi fi scope own fr) σ (Zh fi scope h.objs.size (El h.objs.size (Hp env.cells scope.names []) own) env) (Gg m fr) (Lb h own):=by
 have kf:=Rt h own
 have kk:C5 h₁ (Lb h own):=hk.trans kf
 have frees:∀ n,(n,NameKind.free)∈scope.names→(env.cells.lookup n).isSome=true:=fun n hn=>by
  obtain ⟨x,hx,e⟩:=ok.free _ hn rfl
  obtain ⟨a,v,ha,_⟩:=S₀.cell x (ok.rd x hx).2
  have e':n=sx x:=e
  rw [e',ha]; rfl
 have sub:=O5 env.cells scope.names [] frees (fun y a e=>by cases e)
 have rdA:∀ x∈fr,∃ a v,(El h.objs.size (Hp env.cells scope.names []) own).lookup (sx x)=some a∧env.cells.lookup (sx x)=some a∧h₁.IsCell a v:=fun x hx=>by
  obtain ⟨a,v,ha,hc⟩:=S₀.cell x (ok.rd x hx).2
  have:=Tz env.cells scope.names [] (sx x) (.inl (ok.rd x hx).1)
  obtain ⟨b,hb⟩:=Option.isSome_iff_exists.mp this
  have hab:=sub _ _ hb
  rw [ha] at hab; cases hab
  refine ⟨a,v,?_,ha,hc⟩
  cases own with
  | none=>exact hb
  | some z =>
   unfold El
   rw [List.lookup_cons]
   have:(sx x == sx z)=false:=by
    cases q:sx x == sx z with
    | false=>rfl
    | true =>
     have e:sx x=sx z:=by simpa using q
     exact absurd (E4 e ▸ hx) (ok.apart z rfl)
   rw [this]; exact hb
 have ownA:∀ a,Own (cfi fi scope own fr) (Zh fi scope h.objs.size (El h.objs.size (Hp env.cells scope.names []) own) env) a→a=h.objs.size∨((∃ x,own=some x)∧a=h.objs.size + 1):=by
  rintro a (rfl | ⟨x,hx,ha⟩)
  ·exact .inl rfl
  ·refine .inr ⟨⟨x,by simpa [cfi] using hx⟩,?_⟩
   have hx':own=some x:=by simpa [cfi] using hx
   subst hx'
   have ha':(El h.objs.size (Hp env.cells scope.names []) (some x)).lookup (sx x)=some a:=ha
   unfold El at ha'
   rw [List.lookup_cons_self] at ha'
   exact (Option.some.inj ha').symm
 have big:=S.big
 have dead:∀ {b:Nat},h.objs.size≤b→h.get? b=none:=fun hb=>Heap.get?_none_of_le hb
 have liveC:(Lb h own).get? h.objs.size=some frO:=by
  cases own with
  | none=>exact Heap.get?_push_size _ rfl
  | some x=>exact Heap.get?_push_of_some _ (Heap.get?_push_size _ rfl)
 have hsz:(h.push frO).objs.size=h.objs.size + 1:=Heap.size_push ..
 have liveO:(∃ x,own=some x)→(Lb h own).get? (h.objs.size + 1)=some Aew:=by
  rintro ⟨x,rfl⟩
  have:=Heap.get?_push_size (h.push frO) (o:=Aew) rfl
  rwa [hsz] at this
 refine ⟨S.keep kf,⟨fun _=>none,?_,fun x av hx=>?_⟩,fun a ha=>?_,?_,fun x hx=>?_,?_,?_⟩
 ·have h0:(h.push frO).Ns h.objs.size fun _=>none:=Heap.Ns.new h (.type "dict")
  cases own with
  | none=>exact h0
  | some x=>exact h0.push _
 ·obtain ⟨hx1,hx2⟩:=Lj hx
  obtain ⟨mm,hn,hl⟩:=S₀.locs
  obtain ⟨v,hv,hq⟩:=hl x av hx1
  refine ⟨v,hv.mono (Ext.hold hD) (C5.old kk),.inr ⟨.inr hx2,?_⟩⟩
  obtain ⟨a,w,e1,e2,e3⟩:=rdA x hx2
  refine ⟨a,e1,?_⟩
  rcases hq with ⟨q1,_⟩ | ⟨_,b,q2,q3⟩
  ·exact absurd (ok.rd x hx2).2 q1
  ·rw [e2] at q2; cases q2
   exact q3.keeps kk
 ·rcases ownA a ha with rfl | ⟨hx,rfl⟩
  ·exact ⟨S.fresh_notMut (dead (Nat.le_refl _)),big,_,liveC⟩
  ·exact ⟨S.fresh_notMut (dead (Nat.le_succ _)),by lia,_,liveO hx⟩
 ·rintro a ⟨x,hx,ha⟩
  obtain ⟨b,v,e1,e2,o,e3,_⟩:=rdA x hx
  have hab:b=a:=by
   have ha':(El h.objs.size (Hp env.cells scope.names []) own).lookup (sx x)=some a:=ha
   rw [e1] at ha'; exact Option.some.inj ha'
  subst hab
  obtain ⟨g1,_,_⟩:=S₀.own b (.inr ⟨x,(ok.rd x hx).2,e2⟩)
  have hlt:@LT.lt Nat _ b h.objs.size:=Heap.lt_size (hk _ _ e3)
  refine ⟨(Ext.hold hD).notMut e3 g1,fun q=>?_,o,kk _ _ e3⟩
  rcases ownA b q with rfl | ⟨_,rfl⟩ <;> lia
 ·have hx':own=some x:=by simpa [cfi] using hx
  subst hx'
  refine ⟨h.objs.size + 1,none,?_,Aew,liveO ⟨x,rfl⟩,rfl⟩
  show (El h.objs.size (Hp env.cells scope.names []) (some x)).lookup (sx x)=_
  unfold El
  rw [List.lookup_cons_self]
 ·intro x i hx; cases hx
 ·have cellLt:∀ y a,env.cells.lookup y=some a→(Hp env.cells scope.names []).lookup y=some a→@LT.lt Nat _ a h.objs.size:=by
   intro y a e1 e2
   have hmem:(y,NameKind.free)∈scope.names:=by
    have:∀ (names:List (Str×NameKind)) (acc:List (Str×Addr)),((Hp env.cells names acc).lookup y).isSome=true→(y,NameKind.free)∈names∨(acc.lookup y).isSome=true:=by
     intro names
     induction names with
     | nil=>intro acc q; exact .inr q
     | cons z r ih =>
      intro acc q
      obtain ⟨z,kd⟩:=z
      unfold Hp at q
      (set_option tactic.hygienic true in split at q)
      ·rename_i hkd
       have hkd':kd=.free:=by simpa using hkd
       subst hkd'
       rcases ih _ q with q | q
       ·exact .inl (List.mem_cons_of_mem _ q)
       ·rw [List.lookup_cons] at q
        cases hz:y == z with
        | true =>
         have:y=z:=by simpa using hz
         subst this
         exact .inl List.mem_cons_self
        | false=>rw [hz] at q; exact .inr q
      ·rcases ih _ q with q | q
       ·exact .inl (List.mem_cons_of_mem _ q)
       ·exact .inr q
    rcases this scope.names [] (by rw [e2]; rfl) with q | q
    ·exact q
    ·cases q
   obtain ⟨x,hx,e⟩:=ok.free _ hmem rfl
   have e':y=sx x:=e
   obtain ⟨b,v,_,e3,o,e4,_⟩:=rdA x hx
   rw [e',e3] at e1; cases e1
   exact Heap.lt_size (hk _ _ e4)
  refine ⟨ok.kind,rfl,S₀.env.glob,S₀.env.blt,fun x y a e1 e2=>?_,fun x a e=>?_⟩
  ·rcases Hj e1 with ⟨z,hz,rfl,rfl⟩ | e1
   ·rcases Hj e2 with ⟨z',hz',rfl,_⟩ | e2
    ·cases hz; cases hz'; rfl
    ·have:=cellLt _ _ (sub _ _ e2) e2
     lia
   ·rcases Hj e2 with ⟨z',hz',rfl,rfl⟩ | e2
    ·have:=cellLt _ _ (sub _ _ e1) e1
     lia
    ·exact S₀.env.apart _ _ _ (sub _ _ e1) (sub _ _ e2)
  ·show a≠h.objs.size
   rcases Hj e with ⟨z,hz,rfl,rfl⟩ | e
   ·exact Nat.succ_ne_self _
   ·exact Nat.ne_of_lt (cellLt _ _ (sub _ _ e) e)
end
end
section
theorem Ac7 {fi:Fi} {pos:Pos} {x:String} (hx:Kn fi x=true):Ac6 fi (.Name (Str.ofString x) pos) (B3 x):=by
 intro c env σ m m' av k hT A ρ h d tk os v Q E r S hv q
 cases hT
 exact wpAny_assign_Name (S.storeCel hx hv fun h' tk' S' o'=>q _ _ o' S')
theorem Ah8 {c:Cx} {A:Around} {E:Value→Shared→Prop} {s:Shared} {ρ:Pl} {I:Nat} {av:AVal} {i:Nat} {Q:Value→Shared→Prop} (hit:Ka ρ s.heap I av i) (q:Q (.ref I) s):wpAny c.M A (pyIter (.ref I)) Q E s:=by
 unfold Ka at hit
 split at hit
 ·exact wpAny_pyIter_rangeiter hit q
 ·obtain ⟨l,_,hit⟩:=hit
  exact wpAny_pyIter_listiter hit q
theorem St.heldAt {c:Cx} {ρ:Pl} {fi:Fi} {σ:AS} {env:Env} {m:B1} {h h':Heap} {D:Nat} (S:St c ρ fi σ env m h) (hX:ρ.X D) (nP:¬ρ.Put D) (nO:¬Own fi env D) (nR:¬Rd fi env D) (hs:Heap.SameBut D h h') (hl:∃ o,h'.get? D=some o):St c ρ fi σ env m h'∧Fz ρ h h':=by
 have he:∀ b o,b≠D→h.get? b=some o→h'.get? b=some o:=fun b o hb e=>(hs.2 b hb).trans e
 have fz:Fz ρ h h':=fun b o e J n=>he b o (fun q=>n (q ▸ .inr hX)) e
 have hlo:=(S.sat.xlo D hX).1
 refine ⟨⟨S.sat.step fz (fun b o e=>he b o (S.sat.notBase hlo e) (S.sat.base b o e)) (fun b o e q=>he b o (fun z=>nP (z ▸ q)) e) (fun b o x e=>?_),?_,fun b hb=>?_,fun b hb=>?_,fun x hx=>?_,S.outer,S.env⟩,fz⟩
 ·by_cases hb:b=D
  ·subst hb; exact hl
  ·exact ⟨o,he b o hb e⟩
 ·exact S.locs.mono (Ext.refl _ _) fz fun b o hb e=>he b o (fun z=>hb.elim (fun q=>nO (z ▸ q)) fun q=>nR (z ▸ q)) e
 ·obtain ⟨h1,h2,o,h3⟩:=S.own b hb; exact ⟨h1,h2,o,he b o (fun z=>nO (z ▸ hb)) h3⟩
 ·obtain ⟨h1,h2,o,h3⟩:=S.rd b hb; exact ⟨h1,h2,o,he b o (fun z=>nR (z ▸ hb)) h3⟩
 ·obtain ⟨b,v,h1,o,h2,h3⟩:=S.cell x hx
  exact ⟨b,v,h1,o,he b o (fun z=>nO (z ▸ .inr ⟨x,hx,h1⟩)) h2,h3⟩
inductive CInv (c:Cx) (fi:Fi) (scope:Scope) (own:Option String) (fr:List String) (T:Tg) (bt:B) (el:D) (av av':AVal) (σ':AS) (cenv:Env) (d:Drawn) (os:OsState) (h₁ h₄:Heap) (ρ₁ ρ₀:Pl) (D:Nat) (j:Nat) (s:Shared):Prop
 | mk (h₅:Heap) (tk₅:Tok) (ρ₅:Pl) (m₅:B1) (σ₅:AS) (i:Nat) (acc:List AVal) (vs:List Value) (hs:s=(⟨h₅,#[],d,tk₅,os⟩:Shared)) (hit:Ka ρ₅ h₅ h₁.objs.size av i) (hl:h₅.PlainList D (List.toArray vs)) (hv:Bm ρ₅ h₅ acc vs) (hij:i + j≤1000) (hal:acc.length≤i)
  (e:Ext ρ₀ ρ₅ h₄) (nP:¬ρ₅.Put D) (o:∀ b o,h₁.get? b=some o→¬ρ₁.Put b→h₅.get? b=some o) (l:∀ b o,h₄.get? b=some o→¬ρ₀.Put b→∃ o',h₅.get? b=some o')
  (S:St c ρ₅ (cfi fi scope own fr) σ₅ cenv m₅ h₅) (hj:Iq av T bt el j i acc m₅ σ₅=some (av',σ')):CInv c fi scope own fr T bt el av av' σ' cenv d os h₁ h₄ ρ₁ ρ₀ D j s
section
variable {k:Nat} {fi:Fi} {pos:Pos}
theorem X1 {scope:Scope} {own:Option String} {fr:List String} {target iter elt:Expr} {ifs:List Expr} {T:Tg} {bt:B} {el:D} {n:Nat} (hn:n≤1000) (ok:CompOk fi scope own fr)
  (ht:Ac6 (cfi fi scope own fr) target T) (hp:Hn target=true) (hts:Aa9 k (cfi fi scope own fr) ifs bt) (hel:Cf k (cfi fi scope own fr) elt el)
  {c:Cx} {env:Env} {σ₁ σ':AS} {m:B1} {ρ₁:Pl} {h₁:Heap} {d:Drawn} {tk:Tok} {os:OsState} {A:Around} {E:Value→Shared→Prop} (r:Room A k) (S:St c ρ₁ fi σ₁ env m h₁) {av av':AVal} {x:Value} (hv:Ce ρ₁ h₁ av x)
  (hL:Iq av T bt el n 0 [] (Gg m fr) σ₁=some (av',σ')) {RR:Value→Addr→Result→Shared→Prop}
  (hRR:∀ (D C:Nat) h' tk' ρ' m',h₁.get? D=none→h₁.get? C=none→D≠C→h'.Ns C m'→Ext ρ₁ ρ' h₁→Old ρ₁ h₁ h'→Sat c ρ' σ' h'→Ce ρ' h' av' (.ref D)→¬ρ'.Mut C→602≤C→RR (.ref D) C (.ok .next) ⟨h',#[],d,tk',os⟩) :
  wpAny c.M A (pyIter x) (fun it s₂=>wpAny c.M A (newList []) (fun acc s₃=>wpAny c.M A (newFunctionEnv scope env.globals (Hp env.cells scope.names []) [] env.qual none .none (some env)) (fun cenv s₄ =>
   codeAny c.M A (.compStart (.ListComp elt [⟨target,iter,ifs,0⟩] scope pos) 0 it acc { cenv with scope:=relabel scope env }) (RR acc cenv.locals) s₄) E s₃) E s₂) E ⟨h₁,#[],d,tk,os⟩:=by
 cases n with
 | zero=>cases hL
 | succ n =>
 obtain ⟨r0,hx,_⟩:=bind_some hL
 refine Amq S.sat hv hx fun io tk₁ hio hit=>?_
 have k1:=C5.push h₁ io
 refine wpAny_newList ?_
 generalize hH2:h₁.push io=h₂ at hit k1 ⊢
 have hI2:h₂.get? h₁.objs.size=some io:=by rw [← hH2]; exact Heap.get?_push_size _ hio
 have hz2:h₂.objs.size=h₁.objs.size + 1:=by rw [← hH2]; exact Heap.size_push ..
 generalize hD:h₂.objs.size=D
 have k2:=C5.push h₂ (seqObj "list" ([]:List Value).toArray 0)
 have hDn:h₂.get? D=none:=by rw [← hD]; exact Cc h₂
 have hDn1:h₁.get? D=none:=by rw [← hD]; exact Heap.get?_none_of_le (by rw [hz2]; exact Nat.le_succ _)
 show wpAny c.M A _ _ E (⟨h₂.push (seqObj "list" ([]:List Value).toArray 0),#[],d,tk₁,os⟩:Shared)
 generalize hH3:h₂.push (seqObj "list" ([]:List Value).toArray 0)=h₃ at k2 ⊢
 have hD3:h₃.get? D=some (seqObj "list" ([]:List Value).toArray 0):=by rw [← hH3,← hD]; exact Heap.get?_push_size _ rfl
 have hz3:h₃.objs.size=D + 1:=by rw [← hH3,← hD]; exact Heap.size_push ..
 have k13:C5 h₁ h₃:=k1.trans k2
 have S₂:=S.sat.keep k1
 have bigD:602≤D:=by rw [← hD]; exact S₂.big
 have S₃:Sat c (ρ₁.hold D) σ₁ h₃:=S₂.hold k2 hDn ⟨_,hD3⟩ bigD
 refine Ach S.env ok.cells fun cenv hcenv hloc=>?_
 rw [hcenv,hloc]
 show codeAny c.M A _ (RR (.ref D) h₃.objs.size) (⟨Lb h₃ own,#[],d,tk₁,os⟩:Shared)
 have St₄:=Ak3 ok S k13 hDn1 S₃ ⟨_,hD3⟩
 have k34:=Rt h₃ own
 generalize hce:Zh fi scope h₃.objs.size (El h₃.objs.size (Hp env.cells scope.names []) own) env=cenv at St₄ ⊢
 have hcl:cenv.locals=h₃.objs.size:=by rw [← hce]; rfl
 have ownNew:∀ a,Own (cfi fi scope own fr) cenv a→h₃.get? a=none:=by
  rintro a (rfl | ⟨x,hx,ha⟩)
  ·rw [hcl]; exact Cc h₃
  ·have hx':own=some x:=by simpa [cfi] using hx
   subst hx'
   have ha':(El h₃.objs.size (Hp env.cells scope.names []) (some x)).lookup (sx x)=some a:=by rw [← hce] at ha; exact ha
   unfold El at ha'
   rw [List.lookup_cons_self] at ha'
   cases ha'
   exact Heap.get?_none_of_le (Nat.le_succ _)
 generalize hH4:Lb h₃ own=h₄ at St₄ k34 ⊢
 have k14:C5 h₁ h₄:=k13.trans k34
 have e4:Ext ρ₁ (ρ₁.hold D) h₁:=Ext.hold hDn1
 have nMutI:¬ρ₁.Mut h₁.objs.size:=S.sat.fresh_notMut (Cc h₁)
 have hID:h₁.objs.size≠D:=by rw [← hD,hz2]; exact Nat.ne_of_lt (Nat.lt_succ_self _)
 have nMutI4:¬(ρ₁.hold D).Mut h₁.objs.size:=by
  rintro (q | q | q)
  ·exact nMutI (.inl q)
  ·exact nMutI (.inr q)
  ·exact hID q
 have hI3:h₃.get? h₁.objs.size=some io:=k2 _ _ hI2
 have hI4:h₄.get? h₁.objs.size=some io:=k34 _ _ hI3
 have nOwnI:¬Own (cfi fi scope own fr) cenv h₁.objs.size:=fun q=>by rw [ownNew _ q] at hI3; cases hI3
 have nOwnD:¬Own (cfi fi scope own fr) cenv D:=fun q=>by rw [ownNew _ q] at hD3; cases hD3
 have rdLive:∀ a,Rd (cfi fi scope own fr) cenv a→∃ o,h₁.get? a=some o:=by
  rintro a ⟨x,hx,ha⟩
  obtain ⟨b,v,ha2,o,ho,_⟩:=S.cell x (ok.rd x hx).2
  rw [← hce] at ha
  rcases Hj ha with ⟨y,hy,e,_⟩ | hcx
  ·exact absurd (E4 e ▸ hx) (ok.apart y hy)
  ·have:=O5 env.cells scope.names [] (fun n hn=>by
     obtain ⟨x,hx,e⟩:=ok.free _ hn rfl
     obtain ⟨a,v,ha,_⟩:=S.cell x (ok.rd x hx).2
     have e':n=sx x:=e
     rw [e',ha]; rfl) (fun y a e=>by cases e) _ _ hcx
   rw [ha2] at this; cases this
   exact ⟨o,ho⟩
 have nRdI:¬Rd (cfi fi scope own fr) cenv h₁.objs.size:=fun q=>by
  obtain ⟨o,ho⟩:=rdLive _ q
  rw [Cc] at ho; cases ho
 have nRdD:¬Rd (cfi fi scope own fr) cenv D:=fun q=>by
  obtain ⟨o,ho⟩:=rdLive _ q
  rw [hDn1] at ho; cases ho
 have itMono:Ka (ρ₁.hold D) h₄ h₁.objs.size av 0:=hit.mono (Ext.hold hDn) (C5.old (k2.trans k34)).fz (k2.trans k34 _)
 have nPutD:¬(ρ₁.hold D).Put D:=by
  rintro ⟨i,p,hp,hm⟩
  obtain ⟨⟨_,o1,g1⟩,_,o2,g2⟩:=S.sat.lo i p hp
  rcases hm with rfl | rfl
  ·rw [hDn1] at g1; cases g1
  ·rw [hDn1] at g2; cases g2
 have loop:∀ tk₂,codeAny c.M A (.compLoop (.ListComp elt [⟨target,iter,ifs,0⟩] scope pos) 0 (.ref h₁.objs.size) (.ref D) cenv) (RR (.ref D) h₃.objs.size) (⟨h₄,#[],d,tk₂,os⟩:Shared):=by
  intro tk₂
  refine Af9 (fun j s=>CInv c fi scope own fr T bt el av av' σ' cenv d os h₁ h₄ ρ₁ (ρ₁.hold D) D j s) ?_ (n + 1)
   ⟨h₄,tk₂,ρ₁.hold D,_,σ₁,0,[],[],rfl,itMono,⟨0,k34 _ _ hD3⟩,rfl,by lia,Nat.le_refl _,Ext.refl _ _,nPutD,fun b o e J=>k14 b o e,fun b o e J=>⟨o,e⟩,St₄,hL⟩
  rintro j s ⟨h₅,tk₅,ρ₅,m₅,σ₅,i,acc,vs,rfl,hit,hDl,hacc,hij,hal,e₅,nP,o₅,l₅,S₅,hj⟩
  cases j with
  | zero=>cases hj
  | succ j =>
   obtain ⟨r1,hy,h3⟩:=bind_some hj
   have nMutI₅:¬ρ₅.Mut h₁.objs.size:=e₅.notMut hI4 nMutI4
   have asd:Aside ρ₅ (cfi fi scope own fr) cenv h₅ h₁.objs.size:=by
    refine ⟨S.sat.big,nMutI₅,nOwnI,nRdI,fun o ho=>?_⟩
    obtain ⟨o',ho',hd'⟩:=hit.notFz
    rw [ho'] at ho; cases ho
    exact hd'
   refine Amu S₅.sat r.hh hit hy fun y h₆ tk₆ hyr he₆=>?_
   have S₆:=S₅.aside asd he₆
   have fz₆:Fz ρ₅ h₅ h₆:=fun b o e hsq J=>he₆ b o (fun z=>asd.seq o (z ▸ e) hsq) e
   have hDl₆:h₆.PlainList D (List.toArray vs):=by
    obtain ⟨nn,ho⟩:=hDl
    exact ⟨nn,he₆ _ _ (Ne.symm hID) ho⟩
   have hacc₆:=Bm.monoF (Ext.refl _ _) fz₆ hacc
   have o₆:∀ b o,h₁.get? b=some o→¬ρ₁.Put b→h₆.get? b=some o:=fun b o e np=>he₆ b o (fun z=>by rw [z,Cc] at e; cases e) (o₅ b o e np)
   have xx:∀ a,ρ₁.X a→ρ₅.X a:=fun a q=>e₅.x a (.inl q)
   cases r1 with
   | none =>
    subst hyr
    cases h3
    obtain ⟨mm,hns,_⟩:=S₆.locs
    rw [hcl] at hns
    have hC1:h₁.get? h₃.objs.size=none:=by
     cases q:h₁.get? h₃.objs.size with
     | none=>rfl
     | some o=>have:=k13 _ _ q; rw [Cc] at this; cases this
    obtain ⟨g1,g2,_⟩:=S₆.own h₃.objs.size (.inl hcl.symm)
    refine hRR D h₃.objs.size h₆ tk₆ (ρ₁.free ρ₅) mm hDn1 hC1 (by rw [hz3]; exact Nat.ne_of_lt (Nat.lt_succ_self _)) hns (Ext.freed (fun i p q=>e₅.pl i p q) fun a q=>?_) o₆ (S₆.sat.freed xx) ?_ (Pl.free_mut xx g1) g2
    ·rcases e₅.put a q with q | q
     ·exact .inl q
     ·right
      cases z:h₁.get? a with
      | none=>rfl
      | some o=>have:=k14 _ _ z; rw [q] at this; cases this
    ·refine ⟨D,vs,rfl,?_,hDl₆.isList,by have:=hacc.len; lia,hacc₆.freed xx⟩
     rintro (q | q)
     ·exact nP q
     ·obtain ⟨_,o,ho⟩:=S.sat.xlo D q
      rw [hDn1] at ho; cases ho
   | some x =>
    obtain ⟨yv,rfl,hyr,hit₆⟩:=hyr
    obtain ⟨m₇,h4,h5⟩:=bind_some h3
    obtain ⟨⟨b,σ₈⟩,h6,h7⟩:=bind_some h5
    have l₆:∀ b o,h₄.get? b=some o→¬(ρ₁.hold D).Put b→∃ o',h₆.get? b=some o':=fun b o e np=>by
     by_cases hb:b=h₁.objs.size
     ·subst hb
      obtain ⟨o',ho',_⟩:=hit₆.notFz; exact ⟨o',ho'⟩
     ·obtain ⟨o5,g5⟩:=l₅ b o e np
      exact ⟨o5,he₆ b o5 hb g5⟩
    refine Yt (x:=x) hp hit₆ (Ae7 hy hyr) ?_
    refine ht c cenv σ₅ m₅ m₇ x k h4 A ρ₅ h₆ d _ os yv _ _ r S₆ (hyr.monoF (Ext.refl _ _) fz₆) fun h₇ tk₇ o₇ S₇=>?_
    have fz₇:=o₇.fz S₆
    have hDl₇:h₇.PlainList D (List.toArray vs):=by
     obtain ⟨nn,ho⟩:=hDl₆
     exact ⟨nn,o₇.2 _ _ ho nP nOwnD⟩
    have hit₇:=hit₆.mono (Ext.refl _ _) fz₇ fun o g=>o₇.2 _ _ g (Pl.Mut.put nMutI₅) nOwnI
    have hacc₇:=Bm.monoF (Ext.refl _ _) fz₇ hacc₆
    have own1:∀ b o,h₁.get? b=some o→¬Own (cfi fi scope own fr) cenv b:=fun b o e q=>by
     have:=k13 _ _ e
     rw [ownNew _ q] at this; cases this
    have put1:∀ b o,h₁.get? b=some o→¬ρ₁.Put b→¬ρ₅.Put b:=fun b o e np=>e₅.notPut (k14 _ _ e) np
    have o₇':∀ b o,h₁.get? b=some o→¬ρ₁.Put b→h₇.get? b=some o:=fun b o e np=>o₇.2 b o (o₆ b o e np) (put1 b o e np) (own1 b o e)
    have l₇:∀ b o,h₄.get? b=some o→¬(ρ₁.hold D).Put b→∃ o',h₇.get? b=some o':=fun b o e np=>by
     obtain ⟨o6,g6⟩:=l₆ b o e np
     exact o₇.1 b o6 g6 (e₅.notPut e np)
    refine hts c cenv σ₅ m₇ b σ₈ h6 A ρ₅ h₇ d tk₇ os _ _ r S₇ fun ρ₈ h₈ tk₈ e₈ o₈ S₈=>?_
    have St₈:=S₇.next e₈ o₈ S₈
    have hDl₈:h₈.PlainList D (List.toArray vs):=by
     obtain ⟨nn,ho⟩:=hDl₇
     exact ⟨nn,o₈ _ _ ho nP⟩
    obtain ⟨nD7,hD7⟩:=id hDl₇
    have nP₈:¬ρ₈.Put D:=e₈.notPut hD7 nP
    have hit₈:=hit₇.mono e₈ o₈.fz fun o g=>o₈ _ _ g (Pl.Mut.put nMutI₅)
    have hacc₈:=Bm.mono e₈ o₈ hacc₇
    have e58:Ext (ρ₁.hold D) ρ₈ h₄:=e₅.trans e₈ l₇
    have o₈':∀ b o,h₁.get? b=some o→¬ρ₁.Put b→h₈.get? b=some o:=fun b o e np=>o₈ b o (o₇' b o e np) (put1 b o e np)
    have l₈:∀ b o,h₄.get? b=some o→¬(ρ₁.hold D).Put b→∃ o',h₈.get? b=some o':=fun b o e np=>by
     obtain ⟨o7,g7⟩:=l₇ b o e np
     exact ⟨o7,o₈ b o7 g7 (e₅.notPut e np)⟩
    dsimp only at h7
    cases b with
    | false =>
     rw [if_neg Bool.false_ne_true]
     rw [if_neg Bool.false_ne_true] at h7
     exact ⟨j,Nat.lt_succ_self _,h₈,tk₈,ρ₈,m₇,σ₈,i + 1,acc,vs,rfl,hit₈,hDl₈,hacc₈,by lia,by lia,e58,nP₈,o₈',l₈,St₈,h7⟩
    | true =>
     rw [if_pos rfl]
     rw [if_pos rfl] at h7
     obtain ⟨⟨w,σ₉⟩,h8,h9⟩:=bind_some h7
     refine hel c cenv σ₈ m₇ w σ₉ h8 A ρ₈ h₈ d tk₈ os _ _ r St₈ fun v h₉ tk₉ Dn=>?_
     obtain ⟨ρ₉,e₉,o₉,S₉,hw⟩:=Dn
     have St₉:=St₈.next e₉ o₉ S₉
     have hDl₉:h₉.PlainList D (List.toArray vs):=by
      obtain ⟨nn,ho⟩:=hDl₈
      exact ⟨nn,o₉ _ _ ho nP₈⟩
     obtain ⟨nD8,hD8⟩:=id hDl₈
     have nP₉:¬ρ₉.Put D:=e₉.notPut hD8 nP₈
     obtain ⟨oI8,hI8,_⟩:=hit₈.notFz
     have nMutI₈:¬ρ₈.Mut h₁.objs.size:=e58.notMut hI4 nMutI4
     have hit₉:=hit₈.mono e₉ o₉.fz fun o g=>o₉ _ _ g (Pl.Mut.put nMutI₈)
     have hacc₉:=Bm.mono e₉ o₉ hacc₈
     have e59:Ext (ρ₁.hold D) ρ₉ h₄:=e58.trans e₉ l₈
     have o₉':∀ b o,h₁.get? b=some o→¬ρ₁.Put b→h₉.get? b=some o:=fun b o e np=>o₉ b o (o₈' b o e np) (e58.notPut (k14 _ _ e) np)
     have l₉:∀ b o,h₄.get? b=some o→¬(ρ₁.hold D).Put b→∃ o',h₉.get? b=some o':=fun b o e np=>by
      obtain ⟨o7,g7⟩:=l₈ b o e np
      exact ⟨o7,o₉ b o7 g7 (e58.notPut e np)⟩
     have hX:ρ₉.X D:=e59.x D (.inr rfl)
     have hlenv:=hacc.len
     refine wpAny_list_append_plain hDl₉ (fun h₁₀ hl' hs=>?_) (by rw [List.size_toArray,sizeLine_eq]; lia)
     have hl10:h₁₀.PlainList D (List.toArray (vs++[v])):=by simpa using hl'
     obtain ⟨n10,hD10⟩:=id hl10
     obtain ⟨St₁₀,fz₁₀⟩:=St₉.heldAt hX nP₉ nOwnD nRdD hs ⟨_,hD10⟩
     refine ⟨j,Nat.lt_succ_self _,h₁₀,_,ρ₉,m₇,σ₉,i + 1,acc++[w],vs++[v],rfl,hit₉.mono (Ext.refl _ _) fz₁₀ (fun o g=>(hs.2 _ hID).trans g),hl10,Bm.append (Bm.monoF (Ext.refl _ _) fz₁₀ hacc₉) ⟨v,[],rfl,hw.monoF (Ext.refl _ _) fz₁₀,rfl⟩,by lia,by simp; lia,e59,nP₉,fun b o e np=>?_,fun b o e np=>?_,St₁₀,h9⟩
     ·exact (hs.2 b fun z=>by rw [z,hDn1] at e; cases e).trans (o₉' b o e np)
     ·by_cases hb:b=D
      ·subst hb; exact ⟨_,hD10⟩
      ·obtain ⟨o9,g9⟩:=l₉ b o e np
       exact ⟨o9,(hs.2 b hb).trans g9⟩
 refine codeAny_compStart_list (loop _) (Ah8 itMono (loop _))
end
end
section
theorem Sat.butFrame {c:Cx} {ρ:Pl} {σ:AS} {h h':Heap} {C:Nat} {m:Str→Option Value} (S:Sat c ρ σ h) (hn:h.Ns C m) (nM:¬ρ.Mut C) (lo:602≤C) (hs:Heap.SameBut C h h'):Sat c ρ σ h'∧Fz ρ h h':=by
 obtain ⟨o0,es,ep,ho,hd,_⟩:=hn
 have he:∀ b o,b≠C→h.get? b=some o→h'.get? b=some o:=fun b o hb e=>(hs.2 b hb).trans e
 have fz:Fz ρ h h':=fun b o e hf J=>he b o (fun q=>by
  subst q
  rw [ho] at e; cases e
  rcases hf with ⟨_,_,z⟩ | ⟨_,_,z⟩ <;> rw [hd] at z <;> cases z) e
 exact ⟨S.step fz (fun b o e=>he b o (S.notBase lo e) (S.base b o e)) (fun b o e q=>he b o (fun z=>nM (z ▸ .inl q)) e) fun a o q e=>⟨o,he a o (fun z=>nM (z ▸ .inr q)) e⟩,fz⟩
section
variable {k:Nat} {fi:Fi} {pos:Pos}
theorem T1 {scope:Scope} {own:Option String} {fr:List String} (ok:CompOk fi scope own fr) {c:Cx} {ρ:Pl} {σ:AS} {env:Env} {m:B1} {h:Heap} (S:St c ρ fi σ env m h):closureFor scope env=pure (Hp env.cells scope.names []) :=
 O6 fun n hn=>by
  obtain ⟨x,hx,e⟩:=ok.free _ hn rfl
  obtain ⟨a,v,ha,_⟩:=S.cell x (ok.rd x hx).2
  have e':n=sx x:=e
  rw [e',ha]; rfl
set_option tactic.hygienic true in
theorem Dy {scope:Scope} {own:Option String} {fr:List String} {target iter elt:Expr} {ifs:List Expr} {dI:D} {T:Tg} {bt:B} {el:D} {n:Nat} (hn:n≤1000) (ok:CompOk fi scope own fr) (hi:Cf k fi iter dI)
  (ht:Ac6 (cfi fi scope own fr) target T) (hp:Hn target=true) (hts:Aa9 k (cfi fi scope own fr) ifs bt) (hel:Cf k (cfi fi scope own fr) elt el)
  (hs:∀ (env:Env) x,foldedSetIterable iter env x=pure x:=by intro _ _; rfl):Cf k fi (.ListComp elt [⟨target,iter,ifs,0⟩] scope pos) (C3 dI T bt el fr n):=by
 intro c env σ m av σ' hD A ρ h d tk os Q E r S q
 obtain ⟨⟨ai,σ₁⟩,h1,h2⟩:=bind_some hD
 rw [eval_ListComp]
 refine wpAny_comprehension_free (use:=none) rfl (hs env) (T1 ok S) ok.kind ok.names (hi c env σ m ai σ₁ h1 A ρ h d tk os _ E r S fun x h₁ tk₁ D=>?_)
 obtain ⟨ρ₁,e₁,o₁,S₁,hv⟩:=D
 refine X1 hn ok ht hp hts hel r (S.next e₁ o₁ S₁) hv h2 (RR:=fun acc C=>compPost c.M A E none Q acc C) fun D C h' tk' ρ' m' hD hC hDC hns e' o' S' hv' nC lo=>⟨m',hns,fun h'' hs''=>q _ _ _ ?_⟩
 obtain ⟨S'',fz⟩:=S'.butFrame hns nC lo hs''
 exact .after e₁ o₁ ⟨ρ',e',fun b o e np=>(hs''.2 b fun z=>by subst z; rw [hC] at e; cases e).trans (o' b o e np),S'',hv'.monoF (Ext.refl _ _) fz⟩
set_option tactic.hygienic true in
theorem F0 {scope:Scope} {own:Option String} {fr:List String} {target iter elt:Expr} {ifs:List Expr} {dI:D} {T:Tg} {bt:B} {el:D} {n:Nat} {y:String} {py spos:Pos} (hn:n≤1000) (ok:CompOk fi scope own fr) (hi:Cf k fi iter dI)
  (ht:Ac6 (cfi fi scope own fr) target T) (hp:Hn target=true) (hts:Aa9 k (cfi fi scope own fr) ifs bt) (hel:Cf k (cfi fi scope own fr) elt el) (hy:Pp fi y=true)
  (hsw:(py.line == pos.line && !(scope.names.any fun (n,k)=>n == sx y && (k == .local || k == .cell)))=true)
  (hs:∀ (env:Env) x,foldedSetIterable iter env x=pure x:=by intro _ _; rfl):Mk k fi (.Assign [.Name (Str.ofString y) py] (.ListComp elt [⟨target,iter,ifs,0⟩] scope pos) spos) (Bb y (C3 dI T bt el fr n)):=by
 intro c env σ m fl m' σ' hS A ρ h d tk os Q E r S q
 obtain ⟨⟨av,σ₁⟩,h1,h2⟩:=B0 hS
 cases h2
 obtain ⟨⟨ai,σ₂⟩,h1,h2⟩:=bind_some h1
 have hsw':swapsWith (.ListComp elt [⟨target,iter,ifs,0⟩] scope pos) (some (.Name (Str.ofString y) py)) spos.line env=pure true:=by
  have e1:env.kindOf (sx y)=some .local:=by
   simp only [Pp,Bool.and_eq_true,Bool.not_eq_true',beq_iff_eq] at hy
   exact (S.env.kindOf y).trans hy.1.1.1
  have e2:env.blockKind=.function:=by
   unfold Env.blockKind
   rw [S.env.kind]; rfl
  have e3:(env.blockKind == .function && env.kindOf (sx y) == some .local && py.line == pos.line && !(scope.names.any fun (n,k)=>n == sx y && (k == .local || k == .cell)))=true:=by
   rw [e1,e2]
   simpa using hsw
  show (pure (env.blockKind == .function && env.kindOf (sx y) == some .local && py.line == pos.line && !(scope.names.any fun (n,k)=>n == sx y && (k == .local || k == .cell))):Sem Bool)=pure true
  rw [e3]
 rw [exec_Assign_Name_used _ _ _ _ hsw']
 refine wpAny_bind (wpAny_standAt (wpAny_bind ?_))
 show wpAny _ A (do let _←comprehension (.ListComp elt [⟨target,iter,ifs,0⟩] scope pos) scope env _ (newList []) false (eval iter env) (some (assign (.Name (Str.ofString y) py) env))) _ _ _
 refine wpAny_bind (wpAny_mono (wpAny_comprehension_free (use:=some (assign (.Name (Str.ofString y) py) env)) (Q:=fun _ s'=>Q .next s') rfl (hs env) (T1 ok S) ok.kind ok.names
  (hi c env σ m ai σ₂ h1 A ρ h d tk os _ E r S fun x h₁ tk₁ D=>?_)) (fun _ s' hq=>wpAny_pure (wpAny_pure hq)) fun _ _ e=>e)
 obtain ⟨ρ₁,e₁,o₁,S₁,hv⟩:=D
 have St₁:=S.next e₁ o₁ S₁
 refine X1 hn ok ht hp hts hel r St₁ hv h2 (RR:=fun acc C=>compPost c.M A E (some (assign (.Name (Str.ofString y) py) env)) (fun _ s'=>Q .next s') acc C) fun D C h' tk' ρ' m' hD hC hDC hns e' o' S' hv' nC lo=>?_
 show wpAny c.M A (assign (.Name (Str.ofString y) py) env (.ref D)) _ E _
 have St':=St₁.next e' o' S'
 have nOwnC:¬Own fi env C:=fun z=>by
  obtain ⟨_,_,o,ho⟩:=St₁.own C z
  rw [hC] at ho; cases ho
 refine wpAny_assign_Name (St'.storeLoc hy hv' fun h₂ tk₂ S₂ o₂=>?_)
 obtain ⟨oC,es,ep,hoC,hdC,hfC⟩:=hns
 have hns₂:h₂.Ns C m':=⟨oC,es,ep,o₂.2 _ _ hoC (Pl.Mut.put nC) nOwnC,hdC,hfC⟩
 refine ⟨m',hns₂,fun h₃ hs₃=>?_⟩
 obtain ⟨S₃,fz₃⟩:=S₂.sat.butFrame hns₂ nC lo hs₃
 have he:∀ b o,b≠C→h₂.get? b=some o→h₃.get? b=some o:=fun b o hb e=>(hs₃.2 b hb).trans e
 have nRdC:¬Rd fi env C:=fun z=>by
  obtain ⟨_,_,o,ho⟩:=St₁.rd C z
  rw [hC] at ho; cases ho
 have St₃:=show St c ρ' fi _ env (Bd m y av) h₃ from by
  refine ⟨S₃,S₂.locs.mono (Ext.refl _ _) fz₃ fun b o hb e=>he b o (fun z=>hb.elim (fun q=>nOwnC (z ▸ q)) fun q=>nRdC (z ▸ q)) e,fun b hb=>?_,fun b hb=>?_,fun x hx=>?_,S₂.outer,S₂.env⟩
  ·obtain ⟨h1,h2,o,h3⟩:=S₂.own b hb; exact ⟨h1,h2,o,he b o (fun z=>nOwnC (z ▸ hb)) h3⟩
  ·obtain ⟨h1,h2,o,h3⟩:=S₂.rd b hb; exact ⟨h1,h2,o,he b o (fun z=>nRdC (z ▸ hb)) h3⟩
  ·obtain ⟨b,v,h1,o,h2,h3⟩:=S₂.cell x hx
   exact ⟨b,v,h1,o,he b o (fun z=>nOwnC (z ▸ .inr ⟨x,hx,h1⟩)) h2,h3⟩
 refine q _ h₃ _ ρ' rfl (e₁.trans e' o₁.live) ?_ St₃
 refine o₁.x.trans e₁ ⟨fun b o e np=>?_,fun b o e np no=>?_⟩
 ·have hb:b≠C:=fun z=>by rw [z,hC] at e; cases e
  obtain ⟨o2,g2⟩:=o₂.1 b o (o' b o e np) (e'.notPut e np)
  exact ⟨o2,he b o2 hb g2⟩
 ·have hb:b≠C:=fun z=>by rw [z,hC] at e; cases e
  exact he b o hb (o₂.2 b o (o' b o e np) (e'.notPut e np) no)
end
end
section
section
variable {k:Nat} {fi:Fi} {pos apos:Pos}
set_option tactic.hygienic true in
theorem Ahi {body:List Stmt} {h₀:ExceptHandler} {hs:List ExceptHandler} {S:SD} (hb:Cs k fi body S):Mk k fi (.Try body (h₀ :: hs) [] [] pos) S:=by
 intro c env σ m fl m' σ' hS A ρ h d tk os Q E r St q
 refine wpAny_Try_except (hb c env σ m fl m' σ' hS A ρ h d tk os _ _ r St fun f h' tk' ρ' hf e o S'=>?_)
 cases fl with
 | next=>cases hf; exact wpAny_execs_nil (q _ _ _ ρ' rfl e o S')
 | ret av=>obtain ⟨v,rfl,hv⟩:=hf; exact q _ _ _ ρ' ⟨v,rfl,hv⟩ e o S'
noncomputable def AS.inst? (σ:AS) (v:AVal):Option (Addr×List (String×AVal)):=match v with
 | .id i=>match σ.R i with
  | some (.inst C fs)=>some (C,fs)
  | _=>none
 | _=>none
noncomputable def X3 (C:Addr) (n:String) (f:Fd) (dob:D):D:=fun m σ=>(dob m σ).bind fun p=>match p.2.inst? p.1 with
 | some (C',fs)=>if C'=C∧fs.lookup n=none then f [p.1] p.2 else none
 | none=>none
theorem Ab5 {fs:List (String×AVal)} {n:String} (h:fs.lookup n=none):n ∉ fs.map (·.1):=by
 induction fs with
 | nil=>simp
 | cons x r ih =>
  obtain ⟨y,w⟩:=x
  rw [List.lookup_cons] at h
  cases hy:n == y with
  | true=>rw [hy] at h; cases h
  | false =>
   rw [hy] at h
   have hne:n≠y:=by simpa using hy
   simp only [List.map_cons,List.mem_cons,not_or]
   exact ⟨hne,ih h⟩
theorem Adx {K:Frag} {h:Heap} {N:Addr} {mg:Str→Option Value} {n:Str} {v:Value} (X:K.In h) (G:h.Ns N mg) (e:nsIn K N n=some (some v)):mg n=some v:=by
 obtain ⟨o,es,ep,ho,hd,_,hf⟩:=G
 unfold nsIn at e
 (set_option tactic.hygienic true in split at e)
 ·rename_i c d es' n' sl q
  have:=X _ _ q
  rw [ho] at this
  cases this
  cases hd
  (set_option tactic.hygienic true in split at e)
  ·rename_i en he
   cases e
   rw [← hf]
   unfold nsFind findBy
   rw [← Array.find?_toList,he]
   rfl
  ·(set_option tactic.hygienic true in split at e) <;> cases e
 ·cases e
inductive InEx (h:Heap) (C:Addr) (fs:List (String×AVal)) (v:Value):Prop
 | mk (x:Nat×Nat) (mA:Str→Option Value) (a:v=.ref x.1) (b:(Mm C).isSome=true) (d:h.get? x.1=some (instObj C x.2)) (e:x.1≠x.2) (f:h.Ns1 x.2 mA) (g:Within mA (fs.map fun e=>sx e.1)):InEx h C fs v
theorem Ae5 {c:Cx} {ρ:Pl} {σ:AS} {h:Heap} (S:Sat c ρ σ h) {av:AVal} {v:Value} (hv:Ce ρ h av v) {C:Addr} {fs:List (String×AVal)} (hi:σ.inst? av=some (C,fs)) :
  InEx h C fs v:=by
 unfold AS.inst? at hi
 (set_option tactic.hygienic true in split at hi)
 ·rename_i i
  (set_option tactic.hygienic true in split at hi)
  ·rename_i C' fs' hR
   cases hi
   obtain ⟨p',hp',hne,hC,ho,mA,h1,h2,h3,h5⟩:=S.objs i _ hR
   obtain ⟨p,hp,rfl⟩:=hv
   obtain rfl:p=p':=Option.some.inj (hp.symm.trans hp')
   exact ⟨p,mA,rfl,hC,ho,hne,h1,h2⟩
  ·cases hi
 ·cases hi
theorem Acj {P:Params} {f:Addr} (ht:typeIn (K0 P) (.ref f)=some (.type "function")):∃ o,(K0 P).lookup f=some o∧o.cls=.type "function" := by
 unfold typeIn at ht
 revert ht
 cases e:(K0 P).lookup f with
 | none=>intro ht; simp [e] at ht
 | some o=>intro ht; exact ⟨o,rfl,by simpa [e] using ht⟩
theorem Qn {o:Expr} {n:String} {C N f:Addr} {g:Fd} {dob:D} (ho:Cf k fi o dob) (hC:Mm C=some N) (hN:∀ P,nsOkIn (K0 P) N=true) (hf:∀ P,nsIn (K0 P) N (sx n)=some (some (.ref f))) (hk:∀ P,keepIn (K0 P) (.ref f)=true) (ht:∀ P,typeIn (K0 P) (.ref f)=some (.type "function"))
  (h1:∀ P,nsIn (K0 P) N "__getattribute__" = some none) (h2:∀ P,nsIn (K0 P) N "__getattr__" = some none) (h3:∃ y,typeLookup (.type "object") (sx n)=pure y) (hg:Be k f g)
  (hb:∀ (env:Env) w,attributeBase o (sx n) env w=w:=by intro _ _; rfl) (hline:(apos.endLine == pos.line)=true:=by rfl) :
  Cf k fi (.Call (.Attribute o (Str.ofString n) apos) [] [] pos) (X3 C n g dob):=by
 intro c env σ m av σ' hD A ρ h d tk os Q E r S q
 obtain ⟨⟨ov,σ₁⟩,e1,e2⟩:=bind_some hD
 dsimp only at e2
 (set_option tactic.hygienic true in split at e2)
 ·rename_i C' fs hi
  (set_option tactic.hygienic true in split at e2)
  ·rename_i hc
   obtain ⟨rfl,hno⟩:=hc
   rw [arm_eval_Call,hb]
   refine wpAny_bind (ho c env σ m ov σ₁ e1 A ρ h d tk os _ E r S fun v h₁ tk₁ D=>?_)
   obtain ⟨ρ₁,e₁,o₁,S₁,hv⟩:=D
   obtain ⟨x,mA,rfl,hCs,hx,hne,hns,hw⟩:=Ae5 S₁ hv hi
   refine wpAny_bind (wpAny_standAt ?_)
   have hform:methodCallForm (([]:List Expr).length + ([]:List Keyword).length) (backTo pos (starEach [] env)) (backToKw pos (keywordEach [] env))=true:=rfl
   have hpos:methodCallPos true o env apos pos=pure pos:=by unfold methodCallPos; simp [hline]
   unfold methodCall
   rw [hform]
   obtain ⟨nm,q',bs,sn,sub,ab,col,dd,k0,k1,k2,k3,k5,hCo⟩:=Ahs c hC
   have hNm:c.hB.Ns N (c.hB.nsMap N):=.of_isNs (isNs_of_in c.kin (hN _))
   obtain ⟨of,hof,hofc⟩:=Acj (ht c.w.params)
   obtain ⟨y,hy⟩:=h3
   have hfm:c.hB.nsMap N (sx n)=some (.ref f):=by
    obtain ⟨oN,es,ep,a1,a2,a3,a4⟩:=hNm
    exact Adx c.kin ⟨oN,es,ep,a1,a2,a3,a4⟩ (hf _)
   refine wpAny_bind (wpAny_holding (method_of (S₁.base _ _ hCo) (S₁.baseNs hNm) (nsMap_none_of_in c.kin (hN _) (h1 _)) (nsMap_none_of_in c.kin (hN _) (h2 _)) hfm (S₁.base _ _ (c.kin _ _ hof)) hofc hy
    ⟨_,hx,rfl,fun _ z=>(by cases z),.inr ⟨x.2,rfl,fun z=>hne z.symm,hns⟩⟩ ?_ ?_))
   ·cases hm:mA (sx n) with
    | none=>rfl
    | some z =>
     have:=hw (sx n) (by rw [hm]; exact Option.some_ne_none _)
     obtain ⟨⟨a,b⟩,m1,m2⟩:=List.mem_map.mp this
     have m2':sx a=sx n:=m2
     have:=E4 m2'
     subst this
     exact absurd (List.mem_map.mpr ⟨_,m1,rfl⟩) (Ab5 hno)
   ·refine wpAny_bind (wpAny_of_eq hpos ?_)
    refine callWith_K0 (Xx S₁) (hk _) ?_
    exact hg.call e2 r S₁ ⟨_,[],rfl,hv,rfl⟩ fun v h' tk' D=>q _ _ _ (.after e₁ o₁ D)
  ·cases e2
 ·cases e2
noncomputable abbrev Akw:Fi:=⟨fS chSt,[],[],[("steps",.scell),("wishes",.wcell)]⟩
set_option tactic.hygienic true in
noncomputable def Qv (S:SD) (x:AVal) (σ:AS):Option (AVal×AS):=match σ.R .chooser with
 | some .clos=>(S [("ready",x)] σ).bind fun p=>match p.1 with
  | .ret v=>some (v,p.2.2)
  | .next=>some (.none,p.2.2)
 | _=>none
theorem Akx:(fS chSt).names.lookup (sx "ready")=some NameKind.local:=by decide +kernel
theorem Z5 {y s1 s2:Str} {a b:Addr} {c:Addr} (h:([(s1,b),(s2,a)]:List (Str×Addr)).lookup y=some c):(y=s1∧c=b)∨(y=s2∧c=a):=by
 rw [List.lookup_cons] at h
 cases e:y == s1 with
 | true=>rw [e] at h; cases h; exact .inl ⟨by simpa using e,rfl⟩
 | false =>
  rw [e] at h
  simp only [List.lookup_cons] at h
  cases e2:y == s2 with
  | true=>rw [e2] at h; cases h; exact .inr ⟨by simpa using e2,rfl⟩
  | false=>rw [e2] at h; cases h
theorem Abk {S:SD} (hS:Cs k Akw (fB chSt) S) {c:Cx} {σ σ':AS} {x av:AVal} (hD:Qv S x σ=some (av,σ')) {A:Around} {ρ:Pl} {h:Heap} {d:Drawn} {tk:Tok} {os:OsState} {v y:Value} {Q:Value→Shared→Prop} {E:Value→Shared→Prop}
  (r:Room A (k + 1)) (Sa:Sat c ρ σ h) (hv:Ce ρ h (.id .chooser) v) (hy:Ce ρ h x y) (q:∀ v h' tk',Ends c ρ h av σ' v h'→Q v ⟨h',#[],d,tk',os⟩):wpAny c.M A (PySem.call v [y]) Q E ⟨h,#[],d,tk,os⟩:=by
 unfold Qv at hD
 (set_option tactic.hygienic true in split at hD)
 ·rename_i hR
  obtain ⟨⟨fl,m',σ₁⟩,h1,h2⟩:=bind_some hD
  obtain ⟨p,hp,rfl⟩:=hv
  obtain ⟨p',hp',ps,pw',fd,e1,e2,ho,hok,hcode,hrec⟩:=Sa.objs _ _ hR
  obtain rfl:p=p':=Option.some.inj (hp.symm.trans hp')
  have hlim:h.NoLimit:=c.lim.keeps Sa.base
  have hbind:bindArgs fd ⟨[y],[]⟩=pure [(sx "ready",y)]:=by
   obtain ⟨g1,g2,g3,g4,g5,g6,g7,g8⟩:=hok
   obtain ⟨f1,f2,f3,f4,f5,f6,f7,f8,f9,f10,f11,f12,f13⟩:=fd
   simp only at g1 g2 g3 g4 g5 g6 g7 g8
   subst g1 g2 g3 g4 g5 g6 g7 g8
   rfl
  refine wpAny_call (codeAny_call_function (by have:=r.dep; show A.depth < 1000; omega) ho rfl (by rw [hok.scope]; rfl) (by rw [hok.scope]; rfl) hok.body (by rw [hcode]; exact hrec) (wpAny_of_eq hbind ?_))
  refine wpAny_newFunctionEnv (by rw [hok.scope]; decide +kernel) (by rw [hok.scope]; intro x hx; rw [List.mem_singleton.mp hx]; exact Akx) (fun h₁ hns hsb=>⟨hlim.fresh _ hsb,codeAny_func ?_⟩) (by rw [hok.scope]; rfl)
  have kp:C5 h h₁:=fun b o e=>hsb.extBut b o (Nat.ne_of_lt (Heap.lt_size e)) (Heap.get?_push_of_some _ e)
  generalize hE:newEnv fd.scope h.objs.size fd.globals fd.closure (fd.qualname ++ ".<locals>.") (some p.1) fd.code none fd.builtins=env
  have a1:env.scope=fS chSt:=by rw [← hE]; exact hok.scope
  have a2:env.locals=h.objs.size:=by rw [← hE]; rfl
  have a3:env.globals=mainGlobals:=by rw [← hE]; exact hok.globals
  have a4:env.builtins=builtinsNs:=by rw [← hE]; exact hok.builtins
  have a5:env.cells=[(sx "wishes",pw'.1),(sx "steps",ps.1)]:=by rw [← hE]; exact hok.clos
  have dist:ps.1≠pw'.1:=(Sa.inj _ _ _ _ e1 e2 (by decide)).1
  have dead:∀ b:Nat,h.objs.size≤b→h.get? b=none:=fun b hb=>Heap.get?_none_of_le hb
  have liveS:=(Sa.lo _ _ e1).1.2
  have liveW:=(Sa.lo _ _ e2).1.2
  have hst:St c ρ Akw σ env [("ready",x)] h₁:=by
   refine ⟨Sa.keep kp,⟨_,by rw [a2]; exact hns,fun z av' hz=>?_⟩,fun b hb=>?_,fun b hb=>?_,fun z hz=>(by cases hz),fun z i hz=>?_,⟨by rw [a1]; rfl,by rw [a1],a3,a4,fun z w b g1 g2=>?_,fun z b g=>?_⟩⟩
   ·have hz':z = "ready" ∧ av'=x:=by
     rw [List.lookup_cons] at hz
     cases hq:z == "ready" with
     | true=>rw [hq] at hz; exact ⟨by simpa using hq,(Option.some.inj hz).symm⟩
     | false=>rw [hq] at hz; cases hz
    obtain ⟨rfl,rfl⟩:=hz'
    exact ⟨y,hy.mono (Ext.refl _ _) (C5.old kp),.inl ⟨by simp,by simp,by simp⟩⟩
   ·rcases hb with rfl | ⟨z,hz,_⟩
    ·obtain ⟨o,_,_,ho',_⟩:=hns
     exact ⟨by rw [a2]; exact Sa.fresh_notMut (Cc h),by rw [a2]; exact Sa.big,o,by rw [a2]; exact ho'⟩
    ·cases hz
   ·obtain ⟨z,hz,_⟩:=hb; cases hz
   ·have hz':(z = "steps" ∧ i=.scell)∨(z = "wishes" ∧ i=.wcell):=by
     have hz2:([("steps",Id.scell),("wishes",Id.wcell)]:List (String×Id)).lookup z=some i:=hz
     rw [List.lookup_cons] at hz2
     cases hq:z == "steps" with
     | true=>rw [hq] at hz2; exact .inl ⟨by simpa using hq,(Option.some.inj hz2).symm⟩
     | false =>
      rw [hq] at hz2
      simp only [List.lookup_cons] at hz2
      cases hq2:z == "wishes" with
      | true=>rw [hq2] at hz2; exact .inr ⟨by simpa using hq2,(Option.some.inj hz2).symm⟩
      | false=>rw [hq2] at hz2; cases hz2
    rcases hz' with ⟨rfl,rfl⟩ | ⟨rfl,rfl⟩
    ·exact ⟨ps,e1,by rw [a5]; rfl⟩
    ·exact ⟨pw',e2,by rw [a5]; rfl⟩
   ·rw [a5] at g1 g2
    rcases Z5 g1 with ⟨rfl,rfl⟩ | ⟨rfl,rfl⟩ <;> rcases Z5 g2 with ⟨rfl,g⟩ | ⟨rfl,g⟩
    ·rfl
    ·exact absurd g.symm dist
    ·exact absurd g dist
    ·rfl
   ·rw [a5] at g
    rw [a2]
    obtain ⟨o1,g1⟩:=liveS
    obtain ⟨o2,g2⟩:=liveW
    rcases Z5 g with ⟨_,rfl⟩ | ⟨_,rfl⟩
    ·exact Nat.ne_of_lt (Heap.lt_size g2)
    ·exact Nat.ne_of_lt (Heap.lt_size g1)
  refine hS c env σ _ fl m' _ h1 _ ρ h₁ d _ os _ _ (r.deeper env) hst fun f h' tk' ρ' hf e o S'=>?_
  have eA:Ext ρ ρ' h:=(Ext.refl ρ h).trans e (C5.old kp).live
  have oA:Old ρ h h':=fun b ob e' np=>o.2 b ob (kp b ob e') np fun hown=>by
   rcases hown with rfl | ⟨z,hz,_⟩
   ·rw [a2,Cc h] at e'; cases e'
   ·cases hz
  cases fl with
  | next=>cases h2; cases hf; exact q _ _ _ ⟨ρ',eA,oA,S'.sat,rfl⟩
  | ret av=>cases h2; obtain ⟨v,rfl,hv⟩:=hf; exact q _ _ _ ⟨ρ',eA,oA,S'.sat,hv⟩
 ·cases hD
end
section
variable {k:Nat} {fi:Fi} {pos apos:Pos}
noncomputable def Ta (S:SD) (dob:D) (da:D):D:=fun m σ=>(dob m σ).bind fun p=>match p.2.inst? p.1 with
 | some (C,fs)=>if C=496 then (match fs.lookup "choose" with
  | some (.id .chooser)=>(da m p.2).bind fun q=>Qv S q.1 q.2
  | _=>none) else none
 | none=>none
theorem Aa5 {o e:Expr} {S:SD} {dob da:D} (hS:Cs k Akw (fB chSt) S) (ho:Cf (k + 1) fi o dob) (he:Cf (k + 1) fi e da)
  (h1:∀ P,findIn (K0 P) (.ref 496) "__getattribute__" = some (some (.builtin "object.__getattribute__"))) (h2:∀ P,findIn (K0 P) (.ref 496) "__getattr__" = some none) (h3:∀ P,findIn (K0 P) (.ref 496) (sx "choose")=some none)
  (hst:∀ env:Env,starEach [e] env=[(false,eval e env)]:=by intro _; rfl)
  (hb:∀ (env:Env) w,attributeBase o (sx "choose") env w=w:=by intro _ _; rfl) (hline:(apos.endLine == pos.line)=true:=by rfl) :
  Cf (k + 1) fi (.Call (.Attribute o (Str.ofString "choose") apos) [e] [] pos) (Ta S dob da):=by
 intro c env σ m av σ' hD A ρ h d tk os Q E r St q
 obtain ⟨⟨ov,σ₁⟩,e1,e2⟩:=bind_some hD
 dsimp only at e2
 (set_option tactic.hygienic true in split at e2)
 ·rename_i C fs hi
  (set_option tactic.hygienic true in split at e2)
  ·rename_i hC
   subst hC
   (set_option tactic.hygienic true in split at e2)
   ·rename_i hf
    obtain ⟨⟨x,σ₂⟩,e3,e4⟩:=bind_some e2
    rw [arm_eval_Call,hb]
    refine wpAny_bind (ho c env σ m ov σ₁ e1 A ρ h d tk os _ E r St fun v h₁ tk₁ D=>?_)
    obtain ⟨ρ₁,e₁,o₁,S₁,hv⟩:=D
    obtain ⟨xa,mA,rfl,hCs,hx,hne,hns,hw⟩:=Ae5 S₁ hv hi
    refine wpAny_bind (wpAny_standAt ?_)
    have hform:methodCallForm (([e]:List Expr).length + ([]:List Keyword).length) (backTo pos (starEach [e] env)) (backToKw pos (keywordEach [] env))=true:=by rw [hst]; rfl
    have hpos:methodCallPos true o env apos pos=pure pos:=by unfold methodCallPos; simp [hline]
    unfold methodCall
    rw [hform]
    obtain ⟨od,es,ep,hod,_⟩:=id hns
    have IA:InstAt h₁ xa.1 (instObj 496 xa.2) 496 (some od):=⟨hx,rfl,rfl,hod⟩
    have hfld:σ₁.field ov "choose" = some (.id .chooser):=by
     unfold AS.inst? at hi
     unfold AS.field
     (set_option tactic.hygienic true in split at hi)
     ·rename_i i
      cases hR:σ₁.R i with
      | none=>rw [hR] at hi; cases hi
      | some oo =>
       rw [hR] at hi
       cases oo with
       | inst C' fs'=>cases hi; simpa [hR] using hf
       | _=>cases hi
     ·cases hi
    refine wpAny_bind (wpAny_holding (method_usual (Xx S₁) IA (h1 _) (h2 _) (h3 _) rfl (Ang S₁ hv hfld (by decide) fun w tk₂ hw=>?_)))
    refine wpAny_bind (wpAny_of_eq hpos ?_)
    have St₁:=St.next e₁ o₁ S₁
    have hlive:=hw
    obtain ⟨pc,hpc,rfl⟩:=hw
    have hwalk:=he c env σ₁ m x σ₂ e3 A ρ₁ h₁ d tk₂ os (fun vs s'=>(∃ fd,s'.heap.get? pc.1=some ⟨.type "function",none,.func fd,#[]⟩)∧wpAny c.M A (PySem.call (.ref pc.1) [vs]) Q E s') E r St₁ fun y h₂ tk₃ D=>by
     obtain ⟨ρ₂,e₂,o₂,S₂,hy⟩:=D
     have hcl:σ₂.R .chooser=some .clos:=by
      unfold Qv at e4
      (set_option tactic.hygienic true in split at e4)
      ·assumption
      ·cases e4
     have hvc:Ce ρ₂ h₂ (.id .chooser) (.ref pc.1):=⟨pc,e₂.pl _ _ hpc,rfl⟩
     obtain ⟨p',hp',ps,pw',fd,_,_,hof,_⟩:=S₂.objs _ _ hcl
     obtain rfl:=Option.some.inj ((e₂.pl _ _ hpc).symm.trans hp')
     exact ⟨⟨fd,hof⟩,Abk hS e4 r S₂ hvc hy fun v h' tk' D=>q _ _ _ (.after e₁ o₁ (.after e₂ o₂ D))⟩
    have hbk:backTo pos (starEach [e] env)=[(false,eval e env)]:=by rw [hst]; rfl
    rw [hbk]
    refine callWith_of (P:=fun hh=>∃ fd,hh.get? pc.1=some ⟨.type "function",none,.func fd,#[]⟩) rfl (fun hh X=>?_) (Calls.evalArgs_plain (Calls.spliced_cons (wpAny_mono hwalk (fun y s' hy=>Calls.spliced_nil hy) fun _ _ z=>z)))
    obtain ⟨fd,X⟩:=X
    exact ⟨.frame,.inl rfl,(Looks.ld (part:=none) X).andThen .now⟩
   ·cases e2
  ·cases e2
 ·cases e2
end
end
noncomputable def Amk (x:String) (av:AVal):Prop:=∀ (c:Cx) (ρ:Pl) (σ:AS) (h:Heap),Sat c ρ σ h→∃ v,c.mg (sx x)=some v∧Ce ρ h av v
theorem Ac4 {k:Nat} {fi:Fi} {x:String} {pos:Pos} {av:AVal} (hk:Km fi x=true) (hv:Amk x av):Cf k fi (.Name (Str.ofString x) pos) (An av):=by
 intro c env σ m av' σ' hD A ρ h d tk os Q E r S q
 cases hD
 simp only [Km,Bool.and_eq_true,Bool.not_eq_true',beq_iff_eq] at hk
 obtain ⟨v,h1,h2⟩:=hv c ρ σ h S.sat
 refine Calls.Name_function_global S.env.kind ((S.env.kindOf x).trans hk.1) (Calls.loadGlobal_global (mg:=c.mg) ?_ h1 (q _ _ _ (.same S.sat h2))) hk.2
 rw [S.env.glob]
 exact c.g.keeps S.sat.base
theorem Ajm:Amk "_law_plan" (.tup [.int 0,.int 6,.int 1,.int 1,.int 1]):=by
 intro c ρ σ h S
 have h1:nsIn (K0 c.w.params) mainGlobals (sx "_law_plan")=some (some (.ref 543)):=by kernel_rfl
 obtain ⟨t0,t1,t2,t3,t4,h2⟩:∃ t0 t1 t2 t3 t4,(K0 c.w.params).lookup 543=some (Ov [.int 0 t0,.int 6 t1,.int 1 t2,.int 1 t3,.int 1 t4] 0):=⟨_,_,_,_,_,rfl⟩
 refine ⟨.ref 543,mg_of c.kin c.g h1,543,_,rfl,S.notMut (by omega),⟨_,S.base _ _ (c.kin _ _ h2),rfl,0,rfl⟩,?_⟩
 exact ⟨_,_,rfl,⟨_,rfl⟩,_,_,rfl,⟨_,rfl⟩,_,_,rfl,⟨_,rfl⟩,_,_,rfl,⟨_,rfl⟩,_,_,rfl,⟨_,rfl⟩,rfl⟩
theorem Ux {β:Type}:∀ {l:List (Str×β)} {k:Str} {v:β},(l.map (·.1)).Nodup→(k,v)∈l→l.lookup k=some v
 | (y,w) :: r,k,v,hn,hm=>by
  rw [List.map_cons,List.nodup_cons] at hn
  rw [List.lookup_cons]
  rcases List.mem_cons.mp hm with e | hm'
  ·cases e; simp
  ·have:(k == y)=false:=by
    cases q:k == y with
    | false=>rfl
    | true =>
     have:k=y:=by simpa using q
     subst this
     exact absurd (show k∈r.map (·.1) from List.mem_map.mpr ⟨(k,v),hm',rfl⟩) hn.1
   rw [this]
   exact Ux hn.2 hm'
set_option tactic.hygienic true in
noncomputable def Ahx (ps:List String) (dv:List AVal) (S:SD):Fd:=fun avs σ=>match avs with
 | [x]=>(S (Dc ps (x :: dv)) σ).map fun p=>(match p.1 with | .ret v=>v | .next=>.none,p.2.2)
 | _=>none
theorem Afy {k:Nat} {a T:Addr} {sc:Scope} {params:Arguments} {body:List Stmt} {ps:List String} {dv:List AVal} {S:SD}
  (hat:∀ P,FnIn a params body sc (.ref T) P)
  (hT:∀ P,∃ ds,(K0 P).lookup T=some (Ov ds 0)∧(∀ ρ h,Bm ρ h dv ds)∧∀ name qual doc pm cd ct x (s:Shared),s.heap.get? T=some (Ov ds 0)→BindsTo s (fnOf name qual params body sc (.ref T) .none doc pm none cd ct) ⟨[x],[]⟩ ((ps.map sx).zip (x :: ds)))
  (hlen:ps.length=dv.length + 1) (hnd:ps.Nodup) (hloc:∀ x∈ps,sc.names.lookup (sx x)=some .local) (hcell:∀ x∈sc.names,x.2≠.cell) (hk:sc.kind=.function) (hco:sc.isCoroutine=false) (hgen:sc.isGenerator=false)
  (hb:Cs k ⟨sc,[],[],[]⟩ body S):Be (k + 1) a (Ahx ps dv S):=by
 intro c σ avs av σ' hf A ρ h d tk os vs R r S₀ hr q
 unfold Ahx at hf
 (set_option tactic.hygienic true in split at hf)
 ·rename_i x
  obtain ⟨⟨fl,m',σ₁⟩,h1,h2⟩:=B0 hf
  cases h2
  obtain ⟨y,_,rfl,hy,e0⟩:=hr
  cases e0
  obtain ⟨name,qual,doc,pm,cd,ct,hK,hcd⟩:=hat c.w.params
  obtain ⟨ds,hT1,hT2,hT3⟩:=hT c.w.params
  have ho:=S₀.base _ _ (c.kin _ _ hK)
  have hTo:=S₀.base _ _ (c.kin _ _ hT1)
  have hcr:h.CodeRec cd qual:=(codeRec_of c.kin hcd).keeps S₀.base
  have hroom:A.depth < recursionLimit:=by have:=r.dep; show A.depth < 1000; omega
  have hdl:ds.length=dv.length:=(hT2 ρ h).len
  have hvl:(y :: ds).length=ps.length:=by simp [hdl,hlen]
  have hnd':(((ps.map sx).zip (y :: ds)).map (·.1)).Nodup:=by
   rw [List.map_fst_zip (by rw [List.length_map,hvl]; exact Nat.le_refl _)]
   exact List.Pairwise.map sx (fun a b hab z=>hab (E4 z)) hnd
  refine codeAny_call_def (fd:=fnOf name qual params body sc (.ref T) .none doc pm none cd ct) (body:=body) hroom ho rfl (c.lim.keeps S₀.base) hcr rfl (hT3 _ _ _ _ _ _ y ⟨h,#[],d,tk,os⟩ hTo) hcell ?_ ?_ hco hgen hk
  ·intro x hx
   obtain ⟨z,hz,e⟩:=List.mem_map.mp (List.of_mem_zip hx).1
   rw [← e]; exact hloc z hz
  ·intro h₁ hns kp
   generalize hE:callEnv (fnOf name qual params body sc (.ref T) .none doc pm none cd ct) h.objs.size a=env
   have e1:env.scope=sc:=by rw [← hE]; rfl
   have e2:env.locals=h.objs.size:=by rw [← hE]; rfl
   have e3:env.globals=mainGlobals:=by rw [← hE]; rfl
   have e4:env.builtins=builtinsNs:=by rw [← hE]; rfl
   have e5:env.cells=[]:=by rw [← hE]; rfl
   have hS:St c ρ ⟨sc,[],[],[]⟩ σ env (Dc ps (x :: dv)) h₁:=by
    refine ⟨S₀.keep kp,⟨_,by rw [e2]; exact hns,fun z av' hz=>?_⟩,fun b hb=>?_,fun b hb=>?_,fun z hz=>(by cases hz),fun z i hz=>(by cases hz),⟨by rw [e1]; exact hk,by rw [e1],e3,e4,fun z w b g1 g2=>?_,fun z b g=>?_⟩⟩
    ·obtain ⟨v,hm,hv⟩:=Tj (avs:=x :: dv) (vs:=y :: ds) ⟨y,ds,rfl,hy,hT2 ρ h⟩ hz
     refine ⟨v,hv.mono (Ext.refl _ _) (C5.old kp),.inl ⟨by simp,by simp,?_⟩⟩
     refine Ux ?_ (List.mem_reverse.mpr hm)
     rw [List.map_reverse]
     exact List.pairwise_reverse.mpr (hnd'.imp Ne.symm)
    ·rcases hb with rfl | ⟨z,hz,_⟩
     ·obtain ⟨o,_,_,ho',_⟩:=hns
      exact ⟨by rw [e2]; exact S₀.fresh_notMut (Cc h),by rw [e2]; exact S₀.big,o,by rw [e2]; exact ho'⟩
     ·cases hz
    ·obtain ⟨z,hz,_⟩:=hb; cases hz
    ·rw [e5] at g1; cases g1
    ·rw [e5] at g; cases g
   refine hb c env σ _ fl m' _ h1 _ ρ h₁ d _ os _ _ (r.deeper env) hS fun f h' tk' ρ' hf e o S'=>?_
   have eA:Ext ρ ρ' h:=(Ext.refl ρ h).trans e (C5.old kp).live
   have oA:Old ρ h h':=fun b ob e' np=>o.2 b ob (kp b ob e') np fun hown=>by
    rcases hown with rfl | ⟨z,hz,_⟩
    ·rw [e2,Cc h] at e'; cases e'
    ·cases hz
   cases fl with
   | next=>cases hf; exact q _ _ _ ⟨ρ',eA,oA,S'.sat,rfl⟩
   | ret av=>obtain ⟨v,rfl,hv⟩:=hf; exact q _ _ _ ⟨ρ',eA,oA,S'.sat,hv⟩
 ·cases hf
section
theorem Be.le {k k':Nat} {a:Addr} {f:Fd} (hf:Be k a f) (h:k≤k'):Be k' a f :=
 fun c σ avs av σ' e A ρ hp d tk os vs R r=>hf c σ avs av σ' e A ρ hp d tk os vs R (r.le h)
noncomputable def Aht (dd:D):D:=fun m σ=>(dd m σ).bind fun p=>match p.1 with
  | .int x=>some (.int (-x),p.2)
  | _=>none
noncomputable def Re (f:Nat→Id):Nm:=fun m J=>match m.lookup "self" with
 | some (.id (.task i))=>some (f i)
 | _=>none
noncomputable def Ail:Nm:=fun m J=>match m.lookup "self" with
 | some (.id .lib)=>some .libDeps
 | some (.id (.master i))=>some (.deps i)
 | _=>none
noncomputable def Hb (f:Nat→Id):Nm:=fun _ σ=>match σ.R .stages with
 | some (.list xs)=>some (f xs.length)
 | _=>none
noncomputable def Anu:List AVal→AS→Option Id:=fun _ σ=>match σ.R .tasksL with
 | some (.list xs)=>some (.task xs.length)
 | _=>none
noncomputable def Aim:List AVal→AS→Option Id:=fun avs J=>match avs with
 | [_,.none]=>some .lib
 | [_,.id (.task i)]=>some (.master i)
 | _=>none
noncomputable def Aap (sc:Scope) (ps cs:List String):Bool :=
 sc.kind == .function && !sc.isCoroutine && !sc.isGenerator && decide ps.Nodup &&
  ps.all (fun x=>(sc.names.lookup (sx x) == some .local && !cs.contains x) || (sc.names.lookup (sx x) == some .cell && cs.contains x)) &&
  cs.all fun x=>sc.names.contains (sx x,.cell)
theorem Js:∀ (names:List (Str×NameKind)) (n:Nat) (acc:List (Str×Addr)) (x:Str),((x,NameKind.cell)∈names∨(acc.lookup x).isSome=true)→((cellsFrom n names acc).lookup x).isSome=true
 | [],_,acc,x,h=>h.elim (fun q=>by cases q) id
 | (y,k) :: r,n,acc,x,h=>by
  unfold cellsFrom
  by_cases hk:(k == NameKind.cell)=true
  ·rw [if_pos hk]
   refine Js r _ _ x ?_
   by_cases hx:x=y
   ·subst hx; right; simp
   ·rcases h with h | h
    ·rcases List.mem_cons.mp h with e | h
     ·exact absurd (Prod.mk.inj e).1 hx
     ·exact .inl h
    ·right
     have:(x == y)=false:=by simpa using hx
     rw [List.lookup_cons,this]; exact h
  ·rw [if_neg hk]
   refine Js r _ _ x ?_
   rcases h with h | h
   ·rcases List.mem_cons.mp h with e | h
    ·exact absurd (by rw [← (Prod.mk.inj e).2]; rfl) hk
    ·exact .inl h
   ·exact .inr h
theorem Rf {sc:Scope} {ps cs:List String} (h:Aap sc ps cs=true):Plain sc ps cs:=by
 simp only [Aap,Bool.and_eq_true,List.all_eq_true,Bool.or_eq_true,beq_iff_eq,Bool.not_eq_true',decide_eq_true_eq] at h
 obtain ⟨⟨⟨⟨⟨h1,h2⟩,h3⟩,h4⟩,h5⟩,h6⟩:=h
 refine ⟨h1,h2,h3,h4,fun x hx=>?_,fun L x hx=>?_⟩
 ·rcases h5 x hx with ⟨a,b⟩ | ⟨a,b⟩
  ·exact .inl ⟨a,by simpa using b⟩
  ·exact .inr ⟨a,by simpa using b⟩
 ·exact Js _ _ _ _ (.inl (by simpa using h6 x hx))
noncomputable def Aex (fi:Fi) (scope:Scope) (own:Option String) (fr:List String):Bool :=
 scope.kind == .function && scope.names.all (fun y=>y.2 != .local || scope.names.lookup y.1 == some .local) &&
  (scope.names.filter (·.2 == .cell) == own.toList.map fun x=>(sx x,NameKind.cell)) &&
  scope.names.all (fun y=>y.2 != .free || fr.any fun x=>y.1 == sx x) &&
  fr.all (fun x=>scope.names.contains (sx x,.free) && fi.cs.contains x) && own.all fun x=>!fr.contains x
theorem C9 {fi:Fi} {scope:Scope} {own:Option String} {fr:List String} (h:Aex fi scope own fr=true):CompOk fi scope own fr:=by
 simp only [Aex,Bool.and_eq_true,List.all_eq_true,Bool.or_eq_true,beq_iff_eq,Bool.not_eq_true',bne_iff_ne] at h
 obtain ⟨⟨⟨⟨⟨h1,h2⟩,h3⟩,h4⟩,h5⟩,h6⟩:=h
 refine ⟨h1,fun y hy e=>?_,h3,fun y hy e=>?_,fun x hx=>?_,fun x hx=>?_⟩
 ·rcases h2 y hy with q | q
  ·exact absurd e q
  ·exact q
 ·rcases h4 y hy with q | q
  ·exact absurd e q
  ·simpa using q
 ·obtain ⟨a,b⟩:=h5 x hx
  exact ⟨by simpa using a,by simpa using b⟩
 ·cases own with
  | none=>cases hx
  | some z=>cases hx; simpa using h6
theorem Agv {vs:List Value} {n:Nat} (h:vs.length=n + 1):∃ a r,vs=a :: r∧r.length=n:=by
 cases vs with
 | nil=>cases h
 | cons a r=>exact ⟨a,r,rfl,Nat.succ.inj h⟩
theorem Aov {vs:List Value} (h:vs.length=1):∃ a,vs=[a]:=by
 obtain ⟨a,r,rfl,h₁⟩:=Agv h
 exact ⟨a,by rw [List.length_eq_zero_iff.mp h₁]⟩
theorem Aow {vs:List Value} (h:vs.length=2):∃ a b,vs=[a,b]:=by
 obtain ⟨a,r,rfl,h₁⟩:=Agv h
 obtain ⟨b,rfl⟩:=Aov h₁
 exact ⟨a,b,rfl⟩
theorem Aox {vs:List Value} (h:vs.length=3):∃ a b c,vs=[a,b,c]:=by
 obtain ⟨a,r,rfl,h₁⟩:=Agv h
 obtain ⟨b,c,rfl⟩:=Aow h₁
 exact ⟨a,b,c,rfl⟩
theorem Aoy {vs:List Value} (h:vs.length=4):∃ a b c d,vs=[a,b,c,d]:=by
 obtain ⟨a,r,rfl,h₁⟩:=Agv h
 obtain ⟨b,c,d,rfl⟩:=Aox h₁
 exact ⟨a,b,c,d,rfl⟩
theorem Ape {vs:List Value} (h:vs.length=6):∃ a b c d e f,vs=[a,b,c,d,e,f]:=by
 obtain ⟨a,r,rfl,h₁⟩:=Agv h
 obtain ⟨b,r,rfl,h₂⟩:=Agv h₁
 obtain ⟨c,d,e,f,rfl⟩:=Aoy h₂
 exact ⟨a,b,c,d,e,f,rfl⟩
theorem On (P:Params):nsIn (K0 P) 495 (sx "next_number")=some (some (.ref 493)):=by kernel_rfl
theorem M3:∃ y,typeLookup (.type "object") (sx "next_number")=pure y:=⟨none,by rw [typeLookup_type,builtinLookup_eq_fast]; kernel_rfl⟩
noncomputable def Ams:List AVal:=[.int 32,.int 1000000,.int 50,.int 10000,.int 100000,.int 50,.int 1000000]
theorem Aoz (P:Params):∃ ds,(K0 P).lookup 458=some (Ov ds 0)∧(∀ ρ h,Bm ρ h Ams ds)∧∀ name qual doc pm cd ct x (s:Shared),s.heap.get? 458=some (Ov ds 0) →
  BindsTo s (fnOf name qual (fA (mAt 73 0)) (fB (mAt 73 0)) (fS (mAt 73 0)) (.ref 458) .none doc pm none cd ct) ⟨[x],[]⟩ (((["self", "width", "steps", "depth", "members", "text", "tasks", "heap"]:List String).map sx).zip (x :: ds)):=by
 obtain ⟨t0,t1,t2,t3,t4,t5,t6,h2⟩:∃ t0 t1 t2 t3 t4 t5 t6,(K0 P).lookup 458=some (Ov [.int 32 t0,.int 1000000 t1,.int 50 t2,.int 10000 t3,.int 100000 t4,.int 50 t5,.int 1000000 t6] 0):=⟨_,_,_,_,_,_,_,rfl⟩
 refine ⟨_,h2,fun ρ h=>?_,fun name qual doc pm cd ct x s hs=>?_⟩
 ·exact ⟨_,_,rfl,⟨_,rfl⟩,_,_,rfl,⟨_,rfl⟩,_,_,rfl,⟨_,rfl⟩,_,_,rfl,⟨_,rfl⟩,_,_,rfl,⟨_,rfl⟩,_,_,rfl,⟨_,rfl⟩,_,_,rfl,⟨_,rfl⟩,rfl⟩
 ·exact BindsTo.of_defaults (T:=458) rfl hs rfl rfl rfl
theorem Qp {k:Nat} {fi:Fi} {pos pos' spos:Pos} {x:String} {elt:Expr} {gs:List Comprehension} {scope:Scope} {dd:D} (he:Cf k fi (.ListComp elt gs scope pos) dd) (hx:Kn fi x=true) :
  Mk k fi (.Assign [.Name (Str.ofString x) pos'] (.ListComp elt gs scope pos) spos) (Bb x dd):=by
 intro c env σ m fl m' σ' hS A ρ h d tk os Q E r S q
 obtain ⟨⟨av,σ₁⟩,h1,h2⟩:=B0 hS
 cases h2
 have hsw:swapsWith (.ListComp elt gs scope pos) (some (.Name (Str.ofString x) pos')) spos.line env=pure false:=by
  have e1:env.kindOf (sx x)=some .cell:=by
   simp only [Kn,Bool.and_eq_true,beq_iff_eq] at hx
   exact (S.env.kindOf x).trans hx.1
  have e3:(env.blockKind == .function && env.kindOf (sx x) == some .local && pos'.line == pos.line && !(scope.names.any fun (n,k)=>n == sx x && (k == .local || k == .cell)))=false:=by
   have:(env.kindOf (sx x) == some NameKind.local)=false:=by rw [e1]; rfl
   rw [this]; simp
  show (pure (env.blockKind == .function && env.kindOf (sx x) == some .local && pos'.line == pos.line && !(scope.names.any fun (n,k)=>n == sx x && (k == .local || k == .cell))):Sem Bool)=pure false
  rw [e3]
 refine wpAny_Assign_Name (he c env σ m av σ₁ h1 A ρ h d tk os _ E r S fun v h₁ tk₁ D=>?_) hsw
 obtain ⟨ρ₁,e₁,o₁,S₁,hv⟩:=D
 refine (S.next e₁ o₁ S₁).storeCel hx hv fun h' tk' S' o'=>?_
 exact q _ _ _ ρ₁ rfl e₁ (o₁.x.trans e₁ o') S'
noncomputable def Zv:Expr→Bool
 | .Starred ..=>true
 | _=>false
theorem Lz {e:Expr} {es:List Expr} (h:Zv e=false) (env:Env):starEach (e :: es) env=(false,eval e env) :: starEach es env:=by
 cases e <;> first | rfl | cases h
noncomputable def F8:List Expr→Bool
 | []=>true
 | e :: es=>!Zv e && F8 es
theorem Adw {env:Env}:∀ {es:List Expr},F8 es=true→starEach es env=es.map fun e=>(false,eval e env)
 | [],_=>rfl
 | e :: es,h=>by
  simp only [F8,Bool.and_eq_true,Bool.not_eq_true'] at h
  rw [Lz h.1,Adw h.2]; rfl
theorem Aak {pos:Pos} {env:Env} {es:List Expr} (h:F8 es=true):(backTo pos (starEach es env)).any (·.1)=false:=by
 rw [Adw h]
 unfold backTo
 rw [List.map_map,List.any_map,List.any_eq_false]
 intro x _
 simp
theorem Anw {pos:Pos} {env:Env} {es:List Expr} (h:F8 es=true) (hl:decide (es.length < 30)=true) :
  ((backTo pos (starEach es env)).all (fun x=>!x.1) && (backToKw pos (keywordEach [] env)).all (fun x=>x.1.isSome) && decide (es.length + ([]:List Keyword).length + (if ([]:List Keyword).isEmpty then 0 else 1) < 30))=true:=by
 have h1:(backTo pos (starEach es env)).all (fun x=>!x.1)=true:=by
  rw [Adw h]
  unfold backTo
  rw [List.map_map,List.all_map,List.all_eq_true]
  intro x _
  simp
 have h2:(backToKw pos (keywordEach [] env)).all (fun x=>x.1.isSome)=true:=rfl
 rw [h1,h2]
 simpa using hl
theorem Anx {pos:Pos} {env:Env} {es:List Expr} (h:F8 es=true):es=[]∨∃ x r,backTo pos (starEach es env)=(false,x) :: r:=by
 cases es with
 | nil=>exact .inl rfl
 | cons e es =>
  simp only [F8,Bool.and_eq_true,Bool.not_eq_true'] at h
  exact .inr ⟨_,_,by rw [Lz h.1]; rfl⟩
section
variable {k:Nat} {fi:Fi} {pos pos' apos:Pos}
theorem Ag {e:Expr} {es:List Expr} {a:D} {b:Ds} (he:Cf k fi e a) (hes:Hg k fi pos es b) (hst:Zv e=false:=by rfl):Hg k fi pos (e :: es) (Af a b):=Tn he hes (Lz hst)
theorem A0 {x:String} {a:Addr} {e:Expr} {es:List Expr} {ds:Ds} {f:Fd} (hx:Km fi x=true) (hg:Cm x (.base a)) (hf:Be k a f) (hk:∀ P,keepIn (K0 P) (.ref a)=true)
  (hes:Hg k fi pos (e :: es) ds) (hst:F8 (e :: es)=true:=by rfl):Cf k fi (.Call (.Name (Str.ofString x) pos') (e :: es) [] pos) (Az f ds):=by
 have h:=hst
 simp only [F8,Bool.and_eq_true,Bool.not_eq_true'] at h
 exact Ac3 hx hg hf hk hes (Lz h.1) (fun J=>Aak h.2)
theorem I7 {x id:String} {e:Expr} {es:List Expr} {ds:Ds} {g:Fd} (hx:Km fi x=true) (hm:∀ P,nsIn (K0 P) mainGlobals (sx x)=some none) (hf:bootBuiltins (sx x)=some (.builtin id)) (hn:sx x ≠ "__name__") (ok:V0 (.builtin id) g)
  (hes:Hg k fi pos (e :: es) ds) (hst:F8 (e :: es)=true:=by rfl):Cf k fi (.Call (.Name (Str.ofString x) pos') (e :: es) [] pos) (Az g ds):=by
 have h:=hst
 simp only [F8,Bool.and_eq_true,Bool.not_eq_true'] at h
 exact Akq hx hm hf hn ok hes (Lz h.1) (fun J=>Aak hst)
theorem To {x T:String} {e:Expr} {es:List Expr} {ds:Ds} {g:Fd} (hx:Km fi x=true) (hm:∀ P,nsIn (K0 P) mainGlobals (sx x)=some none) (hf:bootBuiltins (sx x)=some (.type T)) (hn:sx x ≠ "__name__") (ok:V0 (.type T) g)
  (hes:Hg k fi pos (e :: es) ds) (hst:F8 (e :: es)=true:=by rfl):Cf k fi (.Call (.Name (Str.ofString x) pos') (e :: es) [] pos) (Az g ds):=by
 have h:=hst
 simp only [F8,Bool.and_eq_true,Bool.not_eq_true'] at h
 exact Akr hx hm hf hn ok hes (Lz h.1) (fun J=>Aak h.2)
theorem D9 {o:Expr} {name:Str} {es:List Expr} {T id:String} {f:Mt} {dob:D} {ds:Ds} (pa:PlainAttrs T) (slot:Slot T name id) (hty:typeOf (.builtin id)=pure (.type "method_descriptor")) (ok:Kz id f)
  (ho:Cf k fi o dob) (hes:Hg k fi pos es ds) (hb:∀ (env:Env) w,attributeBase o name env w=w:=by intro _ _; rfl)
  (hst:F8 es=true:=by rfl) (hl:decide (es.length < 30)=true:=by rfl) (hline:(apos.endLine == pos.line)=true:=by rfl) :
  Cf k fi (.Call (.Attribute o name apos) es [] pos) (Ed T f dob ds) :=
 Afw pa slot hty ok ho hes hb (fun J=>Anw hst hl) hline (fun J=>Aak hst) (fun J=>Anx hst)
end
theorem Abz {ks:List (Option Expr)} {vs:List Expr} {p:Pos}:Zv (.Dict ks vs p)=false:=rfl
theorem Aci {ks:List (Option Expr)} {vs:List Expr} {p:Pos}:F8 [.Dict ks vs p]=true:=rfl
theorem Aa8 {k:Nat} {fi:Fi} {pos p:Pos} {ks:List (Option Expr)} {vs:List Expr} {d:D} (h:Cf k fi (.Dict ks vs p) d):Hg k fi pos [.Dict ks vs p] (Af d Ap):=Tn h Ai (Lz Abz)
theorem I1 (P:Params):nsIn (K0 P) mainGlobals (sx "len")=some none:=by kernel_rfl
theorem Aio (P:Params):nsIn (K0 P) mainGlobals (sx "max")=some none:=by kernel_rfl
theorem Ag0 (P:Params):nsIn (K0 P) mainGlobals (sx "sorted")=some none:=by kernel_rfl
theorem M4 (P:Params):nsIn (K0 P) mainGlobals (sx "range")=some none:=by kernel_rfl
theorem Afa (P:Params):nsIn (K0 P) mainGlobals (sx "list")=some none:=by kernel_rfl
theorem Ef:bootBuiltins (sx "len")=some (.builtin "len")∧sx "len" ≠ "__name__" := by decide +kernel
theorem Zg:bootBuiltins (sx "max")=some (.builtin "max")∧sx "max" ≠ "__name__" := by decide +kernel
theorem Xz:bootBuiltins (sx "sorted")=some (.builtin "sorted")∧sx "sorted" ≠ "__name__" := by decide +kernel
theorem Fu:bootBuiltins (sx "range")=some (.type "range")∧sx "range" ≠ "__name__" := by decide +kernel
theorem S3:bootBuiltins (sx "list")=some (.type "list")∧sx "list" ≠ "__name__" := by decide +kernel
end
section
theorem Bh {k:Nat} {a:Addr} {sc:Scope} {params:Arguments} {body:List Stmt} {ps:List String} {S:SD} (hb:Cs k ⟨sc,[],[],[]⟩ body S) (hat:∀ P,FnIn a params body sc .none P) (hp:Aap sc ps []=true)
  (hbind:∀ vs:List Value,vs.length=ps.length→∀ name qual doc pm cd ct,bindArgs (fnOf name qual params body sc .none .none doc pm none cd ct) ⟨vs,[]⟩=pure ((ps.map sx).zip vs)):Be (k + 1) a (C0 ps S) :=
 Aet (cs:=[]) hat (Rf hp) (fun J J J J J J vs h=>hbind vs h _ _ _ _ _ _) hb
theorem Mi {k:Nat} {a:Addr} {sc:Scope} {params:Arguments} {body:List Stmt} {ps cs:List String} {S:SD} (hb:Cs k ⟨sc,cs,[],[]⟩ body S) (hat:∀ P,FnIn a params body sc .none P) (hp:Aap sc ps cs=true)
  (hbind:∀ vs:List Value,vs.length=ps.length→∀ name qual doc pm cd ct,bindArgs (fnOf name qual params body sc .none .none doc pm none cd ct) ⟨vs,[]⟩=pure ((ps.map sx).zip vs)):Be (k + 1) a (C0 ps S) :=
 Aet hat (Rf hp) (fun J J J J J J vs h=>hbind vs h _ _ _ _ _ _) hb
section
variable {F:List Value→Prop}
theorem bd1 (h:∀ a,F [a]):∀ vs,vs.length=1→F vs:=fun J e=>let ⟨_,e⟩:=Aov e; e ▸ h _
theorem bd2 (h:∀ a b,F [a,b]):∀ vs,vs.length=2→F vs:=fun J e=>let ⟨_,_,e⟩:=Aow e; e ▸ h _ _
theorem bd3 (h:∀ a b c,F [a,b,c]):∀ vs,vs.length=3→F vs:=fun J e=>let ⟨_,_,_,e⟩:=Aox e; e ▸ h _ _ _
theorem bd4 (h:∀ a b c d,F [a,b,c,d]):∀ vs,vs.length=4→F vs:=fun J e=>let ⟨_,_,_,_,e⟩:=Aoy e; e ▸ h _ _ _ _
theorem bd6 (h:∀ a b c d e f,F [a,b,c,d,e,f]):∀ vs,vs.length=6→F vs:=fun J e=>let ⟨_,_,_,_,_,_,e⟩:=Ape e; e ▸ h _ _ _ _ _ _
end
theorem gvb {x:String} {a:Addr} (h:∀ P,nsIn (K0 P) mainGlobals (sx x)=some (some (.ref a))):Cm x (.base a):=fun P=>⟨_,h P,fun J J=>rfl⟩
theorem gvs {x s:String} {t:Tok} (h:∀ P,nsIn (K0 P) mainGlobals (sx x)=some (some (.str (sx s) t))):Cm x (.str s):=fun P=>⟨_,h P,fun J J=>⟨_,rfl⟩⟩
theorem Ia:Cm "ACCEPTING" (.str "accepting"):=gvs fun J=>rfl
theorem N3:Cm "ACTIVATING" (.str "activating"):=gvs fun J=>rfl
theorem Ld:Cm "CALLING" (.str "calling"):=gvs fun J=>rfl
theorem Gr:Cm "COMPLETED" (.str "completed"):=gvs fun J=>rfl
theorem Ah4:Cm "Clock" (.base 134):=gvb fun J=>rfl
theorem Aia (P:Params):keepIn (K0 P) (.ref 134)=true:=by kernel_rfl
theorem T6:Cm "DELAYED" (.str "delayed"):=gvs fun J=>rfl
theorem Le:Cm "DONE" (.str "done"):=gvs fun J=>rfl
theorem Zn:Cm "EntryCall" (.base 31):=gvb fun J=>rfl
theorem Zx (P:Params):keepIn (K0 P) (.ref 31)=true:=by kernel_rfl
theorem Pi:Cm "FRESH" (.str "fresh"):=gvs fun J=>rfl
theorem Adm:Cm "LEAVING" (.str "leaving"):=gvs fun J=>rfl
theorem Ala:Cm "MADE" (.str "made"):=gvs fun J=>rfl
theorem Adn:Cm "MEETING" (.str "meeting"):=gvs fun J=>rfl
theorem Yb:Cm "Master" (.base 323):=gvb fun J=>rfl
theorem Yh (P:Params):keepIn (K0 P) (.ref 323)=true:=by kernel_rfl
theorem Ae3:Cm "OVER" (.str "over"):=gvs fun J=>rfl
theorem Agn:Cm "QUEUED" (.str "queued"):=gvs fun J=>rfl
theorem T7:Cm "READY" (.str "ready"):=gvs fun J=>rfl
theorem Ago:Cm "SERVED" (.str "served"):=gvs fun J=>rfl
theorem Q0:Cm "TASKING_ERROR" (.str "tasking_error"):=gvs fun J=>rfl
theorem Zo:Cm "TaskThing" (.base 190):=gvb fun J=>rfl
theorem Zy (P:Params):keepIn (K0 P) (.ref 190)=true:=by kernel_rfl
theorem Jf:Cm "activate_tasks" (.base 348):=gvb fun J=>rfl
theorem Ji (P:Params):keepIn (K0 P) (.ref 348)=true:=by kernel_rfl
theorem Mr:Cm "are_done" (.base 360):=gvb fun J=>rfl
theorem My (P:Params):keepIn (K0 P) (.ref 360)=true:=by kernel_rfl
theorem Kk:Cm "begin_meeting" (.base 222):=gvb fun J=>rfl
theorem Ko (P:Params):keepIn (K0 P) (.ref 222)=true:=by kernel_rfl
theorem We:Cm "call_entry" (.base 257):=gvb fun J=>rfl
theorem Wq (P:Params):keepIn (K0 P) (.ref 257)=true:=by kernel_rfl
theorem Fn:Cm "can_terminate" (.base 419):=gvb fun J=>rfl
theorem Fp (P:Params):keepIn (K0 P) (.ref 419)=true:=by kernel_rfl
theorem Sn:Cm "choose_among" (.base 534):=gvb fun J=>rfl
theorem So (P:Params):keepIn (K0 P) (.ref 534)=true:=by kernel_rfl
theorem Kl:Cm "complete_task" (.base 381):=gvb fun J=>rfl
theorem Kp (P:Params):keepIn (K0 P) (.ref 381)=true:=by kernel_rfl
theorem Wf:Cm "delay_task" (.base 299):=gvb fun J=>rfl
theorem Wr (P:Params):keepIn (K0 P) (.ref 299)=true:=by kernel_rfl
theorem L4:Cm "drain_queues" (.base 59):=gvb fun J=>rfl
theorem L6 (P:Params):keepIn (K0 P) (.ref 59)=true:=by kernel_rfl
theorem N4:Cm "drop_fresh" (.base 374):=gvb fun J=>rfl
theorem N6 (P:Params):keepIn (K0 P) (.ref 374)=true:=by kernel_rfl
theorem Jg:Cm "end_activation" (.base 355):=gvb fun J=>rfl
theorem Jj (P:Params):keepIn (K0 P) (.ref 355)=true:=by kernel_rfl
theorem Zp:Cm "end_fresh" (.base 367):=gvb fun J=>rfl
theorem Zz (P:Params):keepIn (K0 P) (.ref 367)=true:=by kernel_rfl
theorem Abx:Cm "end_late" (.base 520):=gvb fun J=>rfl
theorem Ab1 (P:Params):keepIn (K0 P) (.ref 520)=true:=by kernel_rfl
theorem T9:Cm "end_meeting" (.base 229):=gvb fun J=>rfl
theorem Uo (P:Params):keepIn (K0 P) (.ref 229)=true:=by kernel_rfl
theorem Q1:Cm "ended_masters" (.base 431):=gvb fun J=>rfl
theorem Q4 (P:Params):keepIn (K0 P) (.ref 431)=true:=by kernel_rfl
theorem Ae4:Cm "_law_feed" (.base 542):=gvb fun J=>rfl
theorem Ua:Cm "finish_call" (.base 215):=gvb fun J=>rfl
theorem Up (P:Params):keepIn (K0 P) (.ref 215)=true:=by kernel_rfl
theorem Wg:Cm "first_call" (.base 54):=gvb fun J=>rfl
theorem Wt (P:Params):keepIn (K0 P) (.ref 54)=true:=by kernel_rfl
theorem Ub:Cm "is_callable" (.base 201):=gvb fun J=>rfl
theorem Uq (P:Params):keepIn (K0 P) (.ref 201)=true:=by kernel_rfl
theorem Yc:Cm "is_due" (.base 166):=gvb fun J=>rfl
theorem Yi (P:Params):keepIn (K0 P) (.ref 166)=true:=by kernel_rfl
theorem Rw:Cm "is_quiet" (.base 426):=gvb fun J=>rfl
theorem Rz (P:Params):keepIn (K0 P) (.ref 426)=true:=by kernel_rfl
theorem Wh:Cm "join_queue" (.base 42):=gvb fun J=>rfl
theorem Wu (P:Params):keepIn (K0 P) (.ref 42)=true:=by kernel_rfl
theorem Uc:Cm "_law_goes_on" (.base 560):=gvb fun J=>rfl
theorem Ur (P:Params):keepIn (K0 P) (.ref 560)=true:=by kernel_rfl
theorem Hs:Cm "_law_hands_on" (.base 581):=gvb fun J=>rfl
theorem Ht (P:Params):keepIn (K0 P) (.ref 581)=true:=by kernel_rfl
theorem Aby:Cm "_law_next" (.base 574):=gvb fun J=>rfl
theorem Ab2 (P:Params):keepIn (K0 P) (.ref 574)=true:=by kernel_rfl
theorem Wj:Cm "least_wait" (.base 173):=gvb fun J=>rfl
theorem Ww (P:Params):keepIn (K0 P) (.ref 173)=true:=by kernel_rfl
theorem Ud:Cm "leave_queue" (.base 47):=gvb fun J=>rfl
theorem Us (P:Params):keepIn (K0 P) (.ref 47)=true:=by kernel_rfl
theorem Pk:Cm "make_task" (.base 341):=gvb fun J=>rfl
theorem Pv (P:Params):keepIn (K0 P) (.ref 341)=true:=by kernel_rfl
theorem Wk:Cm "move_clock" (.base 159):=gvb fun J=>rfl
theorem Wx (P:Params):keepIn (K0 P) (.ref 159)=true:=by kernel_rfl
theorem Zr:Cm "next_time" (.base 152):=gvb fun J=>rfl
theorem Z1 (P:Params):keepIn (K0 P) (.ref 152)=true:=by kernel_rfl
theorem Zs:Cm "note_lost" (.base 278):=gvb fun J=>rfl
theorem Z2 (P:Params):keepIn (K0 P) (.ref 278)=true:=by kernel_rfl
theorem Wl:Cm "offer_call" (.base 243):=gvb fun J=>rfl
theorem Wy (P:Params):keepIn (K0 P) (.ref 243)=true:=by kernel_rfl
theorem Wm:Cm "open_index" (.base 236):=gvb fun J=>rfl
theorem Wz (P:Params):keepIn (K0 P) (.ref 236)=true:=by kernel_rfl
theorem Ue:Cm "open_master" (.base 334):=gvb fun J=>rfl
theorem Ut (P:Params):keepIn (K0 P) (.ref 334)=true:=by kernel_rfl
theorem Uf:Cm "open_select" (.base 285):=gvb fun J=>rfl
theorem Uu (P:Params):keepIn (K0 P) (.ref 285)=true:=by kernel_rfl
theorem Zt:Cm "pass_time" (.base 515):=gvb fun J=>rfl
theorem Z3 (P:Params):keepIn (K0 P) (.ref 515)=true:=by kernel_rfl
theorem Ug:Cm "ready_tasks" (.base 505):=gvb fun J=>rfl
theorem Uv (P:Params):keepIn (K0 P) (.ref 505)=true:=by kernel_rfl
theorem Wn:Cm "serve_lost" (.base 527):=gvb fun J=>rfl
theorem W0 (P:Params):keepIn (K0 P) (.ref 527)=true:=by kernel_rfl
theorem Oi:Cm "settle_abnormal" (.base 409):=gvb fun J=>rfl
theorem Ol (P:Params):keepIn (K0 P) (.ref 409)=true:=by kernel_rfl
theorem Uh:Cm "settle_ends" (.base 414):=gvb fun J=>rfl
theorem Uw (P:Params):keepIn (K0 P) (.ref 414)=true:=by kernel_rfl
theorem L5:Cm "settle_tasks" (.base 450):=gvb fun J=>rfl
theorem L7 (P:Params):keepIn (K0 P) (.ref 450)=true:=by kernel_rfl
theorem Ms:Cm "settle_terminates" (.base 443):=gvb fun J=>rfl
theorem Mz (P:Params):keepIn (K0 P) (.ref 443)=true:=by kernel_rfl
theorem Jx:Cm "stops_here" (.base 250):=gvb fun J=>rfl
theorem Jy (P:Params):keepIn (K0 P) (.ref 250)=true:=by kernel_rfl
theorem Iv:Cm "terminate_below" (.base 438):=gvb fun J=>rfl
theorem Ix (P:Params):keepIn (K0 P) (.ref 438)=true:=by kernel_rfl
theorem N5:Cm "time_after" (.base 145):=gvb fun J=>rfl
theorem N7 (P:Params):keepIn (K0 P) (.ref 145)=true:=by kernel_rfl
theorem Wo:Cm "time_is_up" (.base 306):=gvb fun J=>rfl
theorem W1 (P:Params):keepIn (K0 P) (.ref 306)=true:=by kernel_rfl
theorem Q2:Cm "wait_in_queue" (.base 264):=gvb fun J=>rfl
theorem Q5 (P:Params):keepIn (K0 P) (.ref 264)=true:=by kernel_rfl
theorem Zu:Cm "wait_open" (.base 292):=gvb fun J=>rfl
theorem Z4 (P:Params):keepIn (K0 P) (.ref 292)=true:=by kernel_rfl
theorem Q3:Cm "waiting_tasks" (.base 510):=gvb fun J=>rfl
theorem Q6 (P:Params):keepIn (K0 P) (.ref 510)=true:=by kernel_rfl
theorem Iw:Cm "wake_up" (.base 208):=gvb fun J=>rfl
theorem Iy (P:Params):keepIn (K0 P) (.ref 208)=true:=by kernel_rfl
noncomputable def G4:SD:=(Am (Bj (Ad "number") (Ad "self") "number") (Am (Bj (Ad "caller") (Ad "self") "caller") (Am (Bj (Ad "target") (Ad "self") "target") (Am (Bj (Ad "key") (Ad "self") "key") (Am (Bj (Ad "values") (Ad "self") "values") (Am (Bj (An (.str "made")) (Ad "self") "state") (Am (Bj (An .none) (Ad "self") "deadline") (Am (Bj (An (.bool false)) (Ad "self") "is_firm") (Am (Bj (An (.bool false)) (Ad "self") "is_conditional") (Am (Bj (An .none) (Ad "self") "found") Aq))))))))))
theorem Qq:Cs 0 ⟨fS (mAt 5 0),[],[],[]⟩ (fB (mAt 5 0)) G4:=(Ab (As Aa Aa) (Ab (As Aa Aa) (Ab (As Aa Aa) (Ab (As Aa Aa) (Ab (As Aa Aa) (Ab (As (Bl (by kernel_rfl) Ala) Aa) (Ab (As A2 Aa) (Ab (As B4 Aa) (Ab (As B4 Aa) (Ab (As A2 Aa) Aj))))))))))
noncomputable def Kg:Fd:=C0 ["self", "number", "caller", "target", "key", "values"] G4
theorem Ra:Be 1 28 Kg:=Bh Qq (fun J=>⟨_,_,_,_,_,_,rfl,by kernel_rfl⟩) (by kernel_rfl) (bd6 fun J J J J J J J J J J J J=>rfl)
noncomputable def Mn:Fd:=Zl 31 (fun _ σ=>some (.tmp σ.n)) Kg
theorem Ab7:Be 2 31 Mn:=Kb rfl (fun P=>by kernel_rfl) (fun P=>by kernel_rfl) (fun P=>by kernel_rfl) Ra
noncomputable def Lq:SD:=(Am (sIf (Bs Ty (A1 (Ad "call") "key") (Ad "queues")) (Am (Fy (Eg (fun _ σ=>some (.tmp σ.n)) Ap) (Ad "queues") (A1 (Ad "call") "key")) Aq) Aq) (Am (Bw (Ed "list" Ck (Bg (Ad "queues") (A1 (Ad "call") "key")) (Af (Ad "call") Ap))) (Am (Bj (An (.str "queued")) (Ad "call") "state") Aq)))
theorem Y6:Cs 0 ⟨fS (Ba 6),[],[],[]⟩ (fB (Ba 6)) Lq:=(Ab (Bn (A5 (Ao Aa) Aa @Ack rfl) (Ab (Ei (Dz (nm:=(fun _ σ=>some (.tmp σ.n))) Ai) Aa (Ao Aa)) Aj) Aj) (Ab (Bc (D9 PySem.F.plainAttrs_list PySem.F.slot_list_append PySem.F.type_list_append @Ex (A6 Aa (Ao Aa)) (Ag Aa Ai))) (Ab (As (Bl (by kernel_rfl) Agn) Aa) Aj)))
noncomputable def H5:Fd:=C0 ["queues", "call"] Lq
theorem Aac:Be 1 42 H5:=Bh Y6 (fun J=>⟨_,_,_,_,_,_,rfl,by kernel_rfl⟩) (by kernel_rfl) (bd2 fun J J J J J J J J=>rfl)
noncomputable def J5:SD:=(Am (Bb "rest" (C3 (Ed "dict" Aig (Ad "queues") (Af (A1 (Ad "call") "key") (Af (Db Ap) Ap))) (B3 "one") (Bs cNe (A1 (Ad "one") "number") (A1 (Ad "call") "number")) (Ad "one") ["call"] 1000)) (Am (sIf (Bs cNe (Ad "rest") (Db Ap)) Ez (Am (Bw (Ed "dict" Ae9 (Ad "queues") (Af (A1 (Ad "call") "key") (Af (An .none) Ap)))) Aq)) Aq))
theorem V9:Cs 0 ⟨fS (Ba 7),["call"],[],[]⟩ (fB (Ba 7)) J5:=(Ab (F0 (own:=none) (fr:=["call"]) (by decide) (C9 (by kernel_rfl)) (D9 PySem.F.plainAttrs_dict PySem.F.slot_dict_get PySem.F.type_dict_get @Aiq Aa (Ag (Ao (Cy (by kernel_rfl))) (Ag (B9 Ai) Ai))) Bt rfl (D0 (A5 (Ao Aa) (Ao (Cy (by kernel_rfl))) @Fs rfl)) Aa (by kernel_rfl) (by kernel_rfl)) (Ab (Bn (A5 Aa (B9 Ai) @Fs rfl) C6 (Ab (Bc (D9 PySem.F.plainAttrs_dict PySem.F.slot_dict_pop PySem.F.type_dict_pop @Alm Aa (Ag (Ao (Cy (by kernel_rfl))) (Ag A2 Ai)))) Aj)) Aj))
noncomputable def Jv:Fd:=C0 ["queues", "call"] J5
theorem W9:Be 1 47 Jv:=Mi V9 (fun J=>⟨_,_,_,_,_,_,rfl,by kernel_rfl⟩) (by kernel_rfl) (bd2 fun J J J J J J J J=>rfl)
noncomputable def Ig:SD:=(Am (Bb "waiting" (Ed "dict" Aig (Ad "queues") (Af (Ad "key") (Af (Db Ap) Ap)))) (Am (C4 (dIf (Cz (Ad "waiting")) (Bg (Ad "waiting") (An (.int 0))) (An .none))) Aq))
theorem Y5:Cs 0 ⟨fS (Ba 8),[],[],[]⟩ (fB (Ba 8)) Ig:=(Ab (Bf (D9 PySem.F.plainAttrs_dict PySem.F.slot_dict_get PySem.F.type_dict_get @Aiq Aa (Ag Aa (Ag (B9 Ai) Ai)))) (Ab (Bq (K1 (Bx Aa) (A6 Aa A9) A2)) Aj))
noncomputable def H4:Fd:=C0 ["queues", "key"] Ig
theorem Aab:Be 1 54 H4:=Bh Y5 (fun J=>⟨_,_,_,_,_,_,rfl,by kernel_rfl⟩) (by kernel_rfl) (bd2 fun J J J J J J J J=>rfl)
noncomputable def I4:SD:=(Am (Bb "found" (T3 (fun _ σ=>some (.tmp σ.n)))) (Am (Ajw (Ad "queues")) (Am (Bw (Ed "dict" Z6 (Ad "queues") Ap)) (Am (C4 (C3 (Az Adk (Af (Ad "found") Ap)) (B3 "number") (Cp true) (Bg (Ad "found") (Ad "number")) ["found"] 1000)) Aq))))
theorem Ts:Cs 0 ⟨fS (Ba 9),["found"],[],[]⟩ (fB (Ba 9)) I4:=(Ab (Gl (Tm (nm:=(fun _ σ=>some (.tmp σ.n)))) (by kernel_rfl)) (Ab (Af1 Aa) (Ab (Bc (D9 PySem.F.plainAttrs_dict PySem.F.slot_dict_clear PySem.F.type_dict_clear @Aip Aa Ai)) (Ab (Bq (Dy (own:=none) (fr:=["found"]) (by decide) (C9 (by kernel_rfl)) (I7 (by kernel_rfl) Ag0 Xz.1 Xz.2 @Ahq (Ag (Cy (by kernel_rfl)) Ai)) Bt rfl Ni (A6 (Cy (by kernel_rfl)) Aa))) Aj))))
noncomputable def Go:Fd:=C0 ["queues"] I4
theorem M0:Be 1 59 Go:=Mi Ts (fun J=>⟨_,_,_,_,_,_,rfl,by kernel_rfl⟩) (by kernel_rfl) (bd1 fun J J J J J J J=>rfl)
noncomputable def Qb:SD:=(Am (Bj (An (.int 0)) (Ad "self") "now") Aq)
theorem Y1:Cs 0 ⟨fS (mAt 15 0),[],[],[]⟩ (fB (mAt 15 0)) Qb:=(Ab (As A9 Aa) Aj)
noncomputable def Pc:Fd:=C0 ["self"] Qb
theorem Z8:Be 1 131 Pc:=Bh Y1 (fun J=>⟨_,_,_,_,_,_,rfl,by kernel_rfl⟩) (by kernel_rfl) (bd1 fun J J J J J J J=>rfl)
noncomputable def Ae1:Fd:=Zl 134 (fun J J=>some .clock) Pc
theorem Alh:Be 2 134 Ae1:=Kb rfl (fun P=>by kernel_rfl) (fun P=>by kernel_rfl) (fun P=>by kernel_rfl) Z8
noncomputable def Lx:SD:=(Am (C4 (Fv Pb (A1 (Ad "clock") "now") (Az Ak8 (Af (Ad "wait") (Af (An (.int 0)) Ap))))) Aq)
theorem Ze:Cs 0 ⟨fS (Ba 16),[],[],[]⟩ (fB (Ba 16)) Lx:=(Ab (Bq (Ec (Ao Aa) (I7 (by kernel_rfl) Aio Zg.1 Zg.2 @Ahp (Ag Aa (Ag A9 Ai))) @Li)) Aj)
noncomputable def La:Fd:=C0 ["clock", "wait"] Lx
theorem P2:Be 1 145 La:=Bh Ze (fun J=>⟨_,_,_,_,_,_,rfl,by kernel_rfl⟩) (by kernel_rfl) (bd2 fun J J J J J J J J=>rfl)
noncomputable def Nb:SD:=(Am (Bb "least" (An .none)) (Am (Ey (Ad "times") (B3 "time") (Am (sIf (Dg (Bs Ff (Ad "time") (An .none)) (Dg (bOr (Bs cIs (Ad "least") (An .none)) (bOr (Bs (K2 fun a b=>decide (a < b)) (Ad "time") (Ad "least")) (Cp false))) (Cp true))) (Am (Bb "least" (Ad "time")) Aq) Aq) Aq) 1000) (Am (C4 (Ad "least")) Aq)))
theorem Abd:Cs 0 ⟨fS (Ba 17),[],[],[]⟩ (fB (Ba 17)) Nb:=(Ab (Bf A2) (Ab (Da 1000 Aa Bt rfl (Ab (Bn (Cd (Bz (A5 Aa A2 @Fh rfl) (Bz (Cd (Ek (A5 Aa A2 @P6 rfl) (Ek (A5 Aa Aa @Afb rfl) Fe))) Co))) (Ab (Bf Aa) Aj) Aj) Aj)) (Ab (Bq Aa) Aj)))
noncomputable def Mp:Fd:=C0 ["times"] Nb
theorem Acd:Be 1 152 Mp:=Bh Abd (fun J=>⟨_,_,_,_,_,_,rfl,by kernel_rfl⟩) (by kernel_rfl) (bd1 fun J J J J J J J=>rfl)
noncomputable def Lu:SD:=(Am (Bj (Az Ak8 (Af (A1 (Ad "clock") "now") (Af (Ad "time") Ap))) (Ad "clock") "now") Aq)
theorem Y9:Cs 0 ⟨fS (Ba 18),[],[],[]⟩ (fB (Ba 18)) Lu:=(Ab (As (I7 (by kernel_rfl) Aio Zg.1 Zg.2 @Ahp (Ag (Ao Aa) (Ag Aa Ai))) Aa) Aj)
noncomputable def K9:Fd:=C0 ["clock", "time"] Lu
theorem Aaf:Be 1 159 K9:=Bh Y9 (fun J=>⟨_,_,_,_,_,_,rfl,by kernel_rfl⟩) (by kernel_rfl) (bd2 fun J J J J J J J J=>rfl)
noncomputable def Qc:SD:=(Am (C4 (Abp (Kf Ff (Ad "time") (An .none)) (Kf (K2 fun a b=>decide (a≤b)) (Ad "time") (A1 (Ad "clock") "now")))) Aq)
theorem Ahn:Cs 0 ⟨fS (Ba 19),[],[],[]⟩ (fB (Ba 19)) Qc:=(Ab (Bq (Gy (Mj (Ej Aa A2 @Fh rfl) (Kc (Ej Aa (Ao Aa) @Ais rfl))))) Aj)
noncomputable def Ki:Fd:=C0 ["clock", "time"] Qc
theorem Acb:Be 1 166 Ki:=Bh Ahn (fun J=>⟨_,_,_,_,_,_,rfl,by kernel_rfl⟩) (by kernel_rfl) (bd2 fun J J J J J J J J=>rfl)
noncomputable def Ls:SD:=(Am (Bb "best" (An .none)) (Am (Ey (Ad "alternatives") (Rm ["index", "kind", "data"]) (Am (sIf (Dg (Bs cEq (Ad "kind") (An (.str "delay"))) (Dg (bOr (Bs cIs (Ad "best") (An .none)) (bOr (Bs (K2 fun a b=>decide (a < b)) (Ad "data") (Bg (Ad "best") (An (.int 1)))) (Cp false))) (Cp true))) (Am (Bb "best" (Mg (Af (Ad "index") (Af (Ad "data") Ap)))) Aq) Aq) Aq) 1000) (Am (C4 (Ad "best")) Aq)))
theorem Y8:Cs 0 ⟨fS (Ba 20),[],[],[]⟩ (fB (Ba 20)) Ls:=(Ab (Bf A2) (Ab (Da 1000 Aa (Oy (.cons (by kernel_rfl) (.cons (by kernel_rfl) (.cons (by kernel_rfl) .nil)))) rfl (Ab (Bn (Cd (Bz (A5 Aa A3 @Du rfl) (Bz (Cd (Ek (A5 Aa A2 @P6 rfl) (Ek (A5 Aa (A6 Aa A9) @Afb rfl) Fe))) Co))) (Ab (Bf (E6 (Ag Aa (Ag Aa Ai)))) Aj) Aj) Aj)) (Ab (Bq Aa) Aj)))
noncomputable def K8:Fd:=C0 ["alternatives"] Ls
theorem Aae:Be 1 173 K8:=Bh Y8 (fun J=>⟨_,_,_,_,_,_,rfl,by kernel_rfl⟩) (by kernel_rfl) (bd1 fun J J J J J J J=>rfl)
noncomputable def G5:SD:=(Am (Bj (Ad "number") (Ad "self") "number") (Am (Bj (Ad "name") (Ad "self") "name") (Am (Bj (Ad "master") (Ad "self") "master") (Am (Bj (An (.str "fresh")) (Ad "self") "state") (Am (Bj (T3 (Re fun i=>.queues i)) (Ad "self") "queues") (Am (Bj (Db Ap) (Ad "self") "open") (Am (Bj (An .none) (Ad "self") "wake") (Am (Bj (An .none) (Ad "self") "late") (Am (Bj (An .none) (Ad "self") "call") (Am (Bj (Eg (Re fun i=>.serving i) Ap) (Ad "self") "serving") (Am (Bj (Eg (Re fun i=>.masters i) Ap) (Ad "self") "masters") (Am (Bj (An .none) (Ad "self") "raised") (Am (Bj (An .none) (Ad "self") "answer") (Am (Bj (An (.bool false)) (Ad "self") "is_abnormal") (Am (Bj (An (.int 0)) (Ad "self") "inside") (Am (Bj (An .none) (Ad "self") "activator") (Am (Bj (An (.int 0)) (Ad "self") "pending") (Am (Bj (An (.bool false)) (Ad "self") "has_failed") (Am (Bj (Db Ap) (Ad "self") "stack") (Am (Bj (An .none) (Ad "self") "frame") (Am (Bj (An .none) (Ad "self") "result") (Am (Bj (Db Ap) (Ad "self") "bases") (Am (Bj (Db Ap) (Ad "self") "caught") (Am (Bj (An .none) (Ad "self") "resume") (Am (Bj (An .none) (Ad "self") "leaving") (Am (Bj (An (.int 0)) (Ad "self") "line") Aq))))))))))))))))))))))))))
theorem Qr:Cs 0 ⟨fS (mAt 34 0),[],[],[]⟩ (fB (mAt 34 0)) G5:=(Ab (As Aa Aa) (Ab (As Aa Aa) (Ab (As Aa Aa) (Ab (As (Bl (by kernel_rfl) Pi) Aa) (Ab (As (Tm (nm:=(Re fun i=>.queues i))) Aa) (Ab (As (B9 Ai) Aa) (Ab (As A2 Aa) (Ab (As A2 Aa) (Ab (As A2 Aa) (Ab (As (Dz (nm:=(Re fun i=>.serving i)) Ai) Aa) (Ab (As (Dz (nm:=(Re fun i=>.masters i)) Ai) Aa) (Ab (As A2 Aa) (Ab (As A2 Aa) (Ab (As B4 Aa) (Ab (As A9 Aa) (Ab (As A2 Aa) (Ab (As A9 Aa) (Ab (As B4 Aa) (Ab (As (B9 Ai) Aa) (Ab (As A2 Aa) (Ab (As A2 Aa) (Ab (As (B9 Ai) Aa) (Ab (As (B9 Ai) Aa) (Ab (As A2 Aa) (Ab (As A2 Aa) (Ab (As A9 Aa) Aj))))))))))))))))))))))))))
noncomputable def Kh:Fd:=C0 ["self", "number", "name", "master"] G5
theorem Rb:Be 1 187 Kh:=Bh Qr (fun J=>⟨_,_,_,_,_,_,rfl,by kernel_rfl⟩) (by kernel_rfl) (bd4 fun J J J J J J J J J J=>rfl)
noncomputable def I9:Fd:=Zl 190 Anu Kh
theorem Ab9:Be 2 190 I9:=Kb rfl (fun P=>by kernel_rfl) (fun P=>by kernel_rfl) (fun P=>by kernel_rfl) Rb
noncomputable def J3:SD:=(Am (C4 (Abp (Ahu (A1 (Ad "task") "is_abnormal")) (Abp (Kf cNe (A1 (Ad "task") "state") (An (.str "completed"))) (Kf cNe (A1 (Ad "task") "state") (An (.str "done")))))) Aq)
theorem V7:Cs 0 ⟨fS (Ba 35),[],[],[]⟩ (fB (Ba 35)) J3:=(Ab (Bq (Gy (Mj (Aa7 (Ao Aa)) (Mj (Ej (Ao Aa) (Bl (by kernel_rfl) Gr) @Fs rfl) (Kc (Ej (Ao Aa) (Bl (by kernel_rfl) Le) @Fs rfl)))))) Aj)
noncomputable def Ju:Fd:=C0 ["task"] J3
theorem W7:Be 1 201 Ju:=Bh V7 (fun J=>⟨_,_,_,_,_,_,rfl,by kernel_rfl⟩) (by kernel_rfl) (bd1 fun J J J J J J J=>rfl)
noncomputable def Rh:SD:=(Am (Bj (An (.str "ready")) (Ad "task") "state") (Am (Bj (Db Ap) (Ad "task") "open") (Am (Bj (An .none) (Ad "task") "wake") (Am (Bj (An .none) (Ad "task") "late") (Am (Bj (Ad "answer") (Ad "task") "answer") (Am (Bj (Ad "raised") (Ad "task") "raised") Aq))))))
theorem Af5:Cs 0 ⟨fS (Ba 36),[],[],[]⟩ (fB (Ba 36)) Rh:=(Ab (As (Bl (by kernel_rfl) T7) Aa) (Ab (As (B9 Ai) Aa) (Ab (As A2 Aa) (Ab (As A2 Aa) (Ab (As Aa Aa) (Ab (As Aa Aa) Aj))))))
noncomputable def Gc:Fd:=C0 ["task", "answer", "raised"] Rh
theorem Ks:Be 1 208 Gc:=Bh Af5 (fun J=>⟨_,_,_,_,_,_,rfl,by kernel_rfl⟩) (by kernel_rfl) (bd3 fun J J J J J J J J J=>rfl)
noncomputable def J2:SD:=(Am (Bj (An (.str "over")) (Ad "call") "state") (Am (Bj (Mg (Af (Mg (Af (An (.str "called")) Ap)) (Af (Ad "raised") Ap))) (Ad "call") "found") (Am (Bj (An .none) (A1 (Ad "call") "caller") "call") (Am (Bw (Az Gc (Af (A1 (Ad "call") "caller") (Af (Mg (Af (An (.str "called")) Ap)) (Af (Ad "raised") Ap))))) Aq))))
theorem V6:Cs 1 ⟨fS (Ba 37),[],[],[]⟩ (fB (Ba 37)) J2:=(Ab (As (Bl (by kernel_rfl) Ae3) Aa) (Ab (As (E6 (Ag (E6 (Ag A3 Ai)) (Ag Aa Ai))) Aa) (Ab (As A2 (Ao Aa)) (Ab (Bc (A0 (by kernel_rfl) Iw (Be.le Ks (by omega)) Iy (Ag (Ao Aa) (Ag (E6 (Ag A3 Ai)) (Ag Aa Ai))))) Aj))))
noncomputable def Jt:Fd:=C0 ["call", "raised"] J2
theorem W6:Be 2 215 Jt:=Bh V6 (fun J=>⟨_,_,_,_,_,_,rfl,by kernel_rfl⟩) (by kernel_rfl) (bd2 fun J J J J J J J J=>rfl)
noncomputable def Hu:SD:=(Am (Bj (An (.str "served")) (Ad "call") "state") (Am (Bj (An (.str "meeting")) (A1 (Ad "call") "caller") "state") (Am (Bj (An .none) (A1 (Ad "call") "caller") "wake") (Am (Bw (Ed "list" Ck (A1 (Ad "task") "serving") (Af (Ad "call") Ap))) (Am (Bw (Az Gc (Af (Ad "task") (Af (Mg (Af (An (.str "accept")) (Af (Ad "index") (Af (Ad "call") Ap)))) (Af (An .none) Ap))))) Aq)))))
theorem Sg:Cs 1 ⟨fS (Ba 38),[],[],[]⟩ (fB (Ba 38)) Hu:=(Ab (As (Bl (by kernel_rfl) Ago) Aa) (Ab (As (Bl (by kernel_rfl) Adn) (Ao Aa)) (Ab (As A2 (Ao Aa)) (Ab (Bc (D9 PySem.F.plainAttrs_list PySem.F.slot_list_append PySem.F.type_list_append @Ex (Ao Aa) (Ag Aa Ai))) (Ab (Bc (A0 (by kernel_rfl) Iw (Be.le Ks (by omega)) Iy (Ag Aa (Ag (E6 (Ag A3 (Ag Aa (Ag Aa Ai)))) (Ag A2 Ai))))) Aj)))))
noncomputable def F1:Fd:=C0 ["task", "index", "call"] Hu
theorem L8:Be 2 222 F1:=Bh Sg (fun J=>⟨_,_,_,_,_,_,rfl,by kernel_rfl⟩) (by kernel_rfl) (bd3 fun J J J J J J J J J=>rfl)
noncomputable def J1:SD:=(Am (Bb "call" (Ed "list" Adt (A1 (Ad "task") "serving") Ap)) (Am (Bw (Az Jt (Af (Ad "call") (Af (Ad "raised") Ap)))) Aq))
theorem V5:Cs 2 ⟨fS (Ba 39),[],[],[]⟩ (fB (Ba 39)) J1:=(Ab (Bf (D9 PySem.F.plainAttrs_list PySem.F.slot_list_pop PySem.F.type_list_pop @Ait (Ao Aa) Ai)) (Ab (Bc (A0 (by kernel_rfl) Ua (Be.le W6 (by omega)) Up (Ag Aa (Ag Aa Ai)))) Aj))
noncomputable def G7:Fd:=C0 ["task", "raised"] J1
theorem W5:Be 3 229 G7:=Bh V5 (fun J=>⟨_,_,_,_,_,_,rfl,by kernel_rfl⟩) (by kernel_rfl) (bd2 fun J J J J J J J J=>rfl)
noncomputable def Ii:SD:=(Am (sIf (Bs cNe (A1 (Ad "task") "state") (An (.str "accepting"))) (Am (C4 (An .none)) Aq) Aq) (Am (Ey (A1 (Ad "task") "open") (Rm ["index", "kind", "data"]) (Am (sIf (Dg (Bs cEq (Ad "kind") (An (.str "accept"))) (Dg (Bs cEq (Ad "data") (Ad "key")) (Cp true))) (Am (C4 (Ad "index")) Aq) Aq) Aq) 1000) (Am (C4 (An .none)) Aq)))
theorem Zb:Cs 0 ⟨fS (Ba 40),[],[],[]⟩ (fB (Ba 40)) Ii:=(Ab (Bn (A5 (Ao Aa) (Bl (by kernel_rfl) Ia) @Fs rfl) (Ab (Bq A2) Aj) Aj) (Ab (Da 1000 (Ao Aa) (Oy (.cons (by kernel_rfl) (.cons (by kernel_rfl) (.cons (by kernel_rfl) .nil)))) rfl (Ab (Bn (Cd (Bz (A5 Aa A3 @Du rfl) (Bz (A5 Aa Aa @Du rfl) Co))) (Ab (Bq Aa) Aj) Aj) Aj)) (Ab (Bq A2) Aj)))
noncomputable def H7:Fd:=C0 ["task", "key"] Ii
theorem Aah:Be 1 236 H7:=Bh Zb (fun J=>⟨_,_,_,_,_,_,rfl,by kernel_rfl⟩) (by kernel_rfl) (bd2 fun J J J J J J J J=>rfl)
noncomputable def Ih:SD:=(Am (Bb "index" (Az H7 (Af (A1 (Ad "call") "target") (Af (A1 (Ad "call") "key") Ap)))) (Am (sIf (Bs cIs (Ad "index") (An .none)) (Am (C4 (An (.bool false))) Aq) Aq) (Am (Bw (Az F1 (Af (A1 (Ad "call") "target") (Af (Ad "index") (Af (Ad "call") Ap))))) (Am (C4 (An (.bool true))) Aq))))
theorem Za:Cs 2 ⟨fS (Ba 41),[],[],[]⟩ (fB (Ba 41)) Ih:=(Ab (Bf (A0 (by kernel_rfl) Wm (Be.le Aah (by omega)) Wz (Ag (Ao Aa) (Ag (Ao Aa) Ai)))) (Ab (Bn (A5 Aa A2 @P6 rfl) (Ab (Bq B4) Aj) Aj) (Ab (Bc (A0 (by kernel_rfl) Kk (Be.le L8 (by omega)) Ko (Ag (Ao Aa) (Ag Aa (Ag Aa Ai))))) (Ab (Bq B4) Aj))))
noncomputable def H6:Fd:=C0 ["call"] Ih
theorem Aag:Be 3 243 H6:=Bh Za (fun J=>⟨_,_,_,_,_,_,rfl,by kernel_rfl⟩) (by kernel_rfl) (bd1 fun J J J J J J J=>rfl)
noncomputable def Lw:SD:=(Am (sIf (bOr (Gk (Cz (A1 (Ad "task") "is_abnormal"))) (bOr (Bs (K2 fun a b=>decide (a > b)) (A1 (Ad "task") "inside") (An (.int 0))) (Cp false))) (Am (C4 (An (.bool false))) Aq) Aq) (Am (Bj (An (.str "delayed")) (Ad "task") "state") (Am (C4 (An (.bool true))) Aq)))
theorem Zd:Cs 0 ⟨fS (Ba 42),[],[],[]⟩ (fB (Ba 42)) Lw:=(Ab (Bn (Cd (Ek (E5 (Bx (Ao Aa))) (Ek (A5 (Ao Aa) A9 @Amw rfl) Fe))) (Ab (Bq B4) Aj) Aj) (Ab (As (Bl (by kernel_rfl) T6) Aa) (Ab (Bq B4) Aj)))
noncomputable def Gq:Fd:=C0 ["task"] Lw
theorem Lh:Be 1 250 Gq:=Bh Zd (fun J=>⟨_,_,_,_,_,_,rfl,by kernel_rfl⟩) (by kernel_rfl) (bd1 fun J J J J J J J=>rfl)
noncomputable def Hx:SD:=(Am (Bw (Az H5 (Af (A1 (A1 (Ad "call") "target") "queues") (Af (Ad "call") Ap)))) (Am (Bj (An (.str "calling")) (A1 (Ad "call") "caller") "state") (Am (Bj (dIf (Cz (A1 (Ad "call") "is_firm")) (An .none) (A1 (Ad "call") "deadline")) (A1 (Ad "call") "caller") "wake") Aq)))
theorem Sk:Cs 1 ⟨fS (Ba 44),[],[],[]⟩ (fB (Ba 44)) Hx:=(Ab (Bc (A0 (by kernel_rfl) Wh (Be.le Aac (by omega)) Wu (Ag (Ao (Ao Aa)) (Ag Aa Ai)))) (Ab (As (Bl (by kernel_rfl) Ld) (Ao Aa)) (Ab (As (K1 (Bx (Ao Aa)) A2 (Ao Aa)) (Ao Aa)) Aj)))
noncomputable def Hr:Fd:=C0 ["call"] Hx
theorem Sr:Be 2 264 Hr:=Bh Sk (fun J=>⟨_,_,_,_,_,_,rfl,by kernel_rfl⟩) (by kernel_rfl) (bd1 fun J J J J J J J=>rfl)
noncomputable def Nc:SD:=(Am (sIf (Bs cEq (A1 (Ad "task") "state") (An (.str "calling"))) Ez Aq) Aq)
theorem Abe:Cs 0 ⟨fS (Ba 46),[],[],[]⟩ (fB (Ba 46)) Nc:=(Ab (Bn (A5 (Ao Aa) (Bl (by kernel_rfl) Ld) @Du rfl) C6 Aj) Aj)
noncomputable def Jb:Fd:=C0 ["tasking", "task"] Nc
theorem Ace:Be 1 278 Jb:=Bh Abe (fun J=>⟨_,_,_,_,_,_,rfl,by kernel_rfl⟩) (by kernel_rfl) (bd2 fun J J J J J J J J=>rfl)
noncomputable def Fb:SD:=(Am (R6 Pb (Ad "self") "numbers" (An (.int 1))) (Am (C4 (A1 (Ad "self") "numbers")) Aq))
theorem Mf:Cs 0 ⟨fS (mAt 75 1),[],[],[]⟩ (fB (mAt 75 1)) Fb:=(Ab (Nh Aa A9 (by decide) @Li) (Ab (Bq (Ao Aa)) Aj))
noncomputable def Dx:Fd:=C0 ["self"] Fb
theorem Fa:Be 1 493 Dx:=Bh Mf (fun J=>⟨_,_,_,_,_,_,rfl,by kernel_rfl⟩) (by kernel_rfl) (bd1 fun J J J J J J J=>rfl)
noncomputable def Ic:SD:=(Am (Bj (An .none) (Ad "caller") "answer") (Am (Bj (An .none) (Ad "caller") "raised") (Am (sIf (Cz (Az Gq (Af (Ad "caller") Ap))) (Am (C4 (An .none)) Aq) Aq) (Am (sIf (Gk (Cz (Az Ju (Af (Ad "target") Ap)))) Ez Aq) (Am (Bb "call" (Az Mn (Af (X3 496 "next_number" Dx (Ad "tasking")) (Af (Ad "caller") (Af (Ad "target") (Af (Ad "key") (Af (Ad "values") Ap))))))) (Am (Bj (Ad "call") (Ad "caller") "call") (Am (Bj (Kf cEq (Ad "wait") (An (.str "else"))) (Ad "call") "is_conditional") (Am (sIf (Dg (Bs Ff (Ad "wait") (An .none)) (Dg (Bs cNe (Ad "wait") (An (.str "else"))) (Cp true))) Ez Aq) (Am (sIf (Cz (Az H6 (Af (Ad "call") Ap))) (Am (C4 (An .none)) Aq) Aq) (Am (sIf (Dg (Bs Ff (Ad "wait") (An .none)) (Dg (bOr (Bs cEq (Ad "wait") (An (.str "else"))) (bOr (Bs (K2 fun a b=>decide (a≤b)) (Ad "wait") (An (.int 0))) (Cp false))) (Cp true))) (Am (Bj (An (.str "over")) (Ad "call") "state") (Am (Bj (An .none) (Ad "caller") "call") Ez)) Aq) (Am (Bw (Az Hr (Af (Ad "call") Ap))) Aq)))))))))))
theorem Y2:Cs 3 ⟨fS (Ba 43),[],[],[]⟩ (fB (Ba 43)) Ic:=(Ab (As A2 Aa) (Ab (As A2 Aa) (Ab (Bn (Bx (A0 (by kernel_rfl) Jx (Be.le Lh (by omega)) Jy (Ag Aa Ai))) (Ab Et Aj) Aj) (Ab (Bn (E5 (Bx (A0 (by kernel_rfl) Ub (Be.le W7 (by omega)) Uq (Ag Aa Ai)))) C6 Aj) (Ab (Bf (A0 (by kernel_rfl) Zn (Be.le Ab7 (by omega)) Zx (Ag (Qn Aa (N:=495) rfl (fun P=>by kernel_rfl) (fun P=>On P) (fun P=>by kernel_rfl) (fun P=>by kernel_rfl) (fun P=>by kernel_rfl) (fun P=>by kernel_rfl) M3 (Be.le Fa (by omega))) (Ag Aa (Ag Aa (Ag Aa (Ag Aa Ai))))))) (Ab (As Aa Aa) (Ab (As (Ej Aa A3 @Du rfl) Aa) (Ab (Bn (Cd (Bz (A5 Aa A2 @Fh rfl) (Bz (A5 Aa A3 @Fs rfl) Co))) C6 Aj) (Ab (Bn (Bx (A0 (by kernel_rfl) Wl (Be.le Aag (by omega)) Wy (Ag Aa Ai))) (Ab Et Aj) Aj) (Ab (Bn (Cd (Bz (A5 Aa A2 @Fh rfl) (Bz (Cd (Ek (A5 Aa A3 @Du rfl) (Ek (A5 Aa A9 @Ais rfl) Fe))) Co))) (Ab (As (Bl (by kernel_rfl) Ae3) Aa) (Ab (As A2 Aa) C6)) Aj) (Ab (Bc (A0 (by kernel_rfl) Q2 (Be.le Sr (by omega)) Q5 (Ag Aa Ai))) Aj)))))))))))
noncomputable def H3:Fd:=C0 ["tasking", "caller", "target", "key", "values", "wait"] Ic
theorem Z9:Be 4 257 H3:=Bh Y2 (fun J=>⟨_,_,_,_,_,_,rfl,by kernel_rfl⟩) (by kernel_rfl) (bd6 fun J J J J J J J J J J J J=>rfl)
noncomputable def Ng:SD:=(Am (Bb "least" (Az K8 (Af (Ad "alternatives") Ap))) (Am (sIf (Dg (Bs Ff (Ad "least") (An .none)) (Dg (Bs (K2 fun a b=>decide (a≤b)) (Bg (Ad "least") (An (.int 1))) (An (.int 0))) (Cp true))) (Am (Bj (Mg (Af (An (.str "delay")) (Af (Bg (Ad "least") (An (.int 0))) Ap))) (Ad "task") "answer") (Am (C4 (An .none)) Aq)) Aq) (Am (Bj (An (.str "accepting")) (Ad "task") "state") (Am (Bj (Ad "alternatives") (Ad "task") "open") (Am (sIf (Bs Ff (Ad "least") (An .none)) (Am (Bj (Bg (Ad "least") (An (.int 0))) (Ad "task") "late") (Am (Bj (Az La (Af (A1 (Ad "tasking") "clock") (Af (Bg (Ad "least") (An (.int 1))) Ap))) (Ad "task") "wake") Aq)) Aq) Aq)))))
theorem Abh:Cs 1 ⟨fS (Ba 48),[],[],[]⟩ (fB (Ba 48)) Ng:=(Ab (Bf (A0 (by kernel_rfl) Wj (Be.le Aae (by omega)) Ww (Ag Aa Ai))) (Ab (Bn (Cd (Bz (A5 Aa A2 @Fh rfl) (Bz (A5 (A6 Aa A9) A9 @Ais rfl) Co))) (Ab (As (E6 (Ag A3 (Ag (A6 Aa A9) Ai))) Aa) (Ab Et Aj)) Aj) (Ab (As (Bl (by kernel_rfl) Ia) Aa) (Ab (As Aa Aa) (Ab (Bn (A5 Aa A2 @Fh rfl) (Ab (As (A6 Aa A9) Aa) (Ab (As (A0 (by kernel_rfl) N5 (Be.le P2 (by omega)) N7 (Ag (Ao Aa) (Ag (A6 Aa A9) Ai))) Aa) Aj)) Aj) Aj)))))
noncomputable def Mq:Fd:=C0 ["tasking", "task", "alternatives"] Ng
theorem Acg:Be 2 292 Mq:=Bh Abh (fun J=>⟨_,_,_,_,_,_,rfl,by kernel_rfl⟩) (by kernel_rfl) (bd3 fun J J J J J J J J J=>rfl)
noncomputable def Hd:SD:=(Am (Bj (An .none) (Ad "task") "answer") (Am (Bj (An .none) (Ad "task") "raised") (Am (sIf (Cz (Az Gq (Af (Ad "task") Ap))) (Am (C4 (An .none)) Aq) Aq) (Am (sIf (Dg (Bs cEq (Ad "alternatives") (Db Ap)) (Dg (Gk (Cz (Ad "has_else"))) (Cp true))) Ez Aq) (Am (Ey (Ad "alternatives") (Rm ["index", "kind", "data"]) (Am (Bb "call" (dIf (Bs cEq (Ad "kind") (An (.str "accept"))) (Az H4 (Af (A1 (Ad "task") "queues") (Af (Ad "data") Ap))) (An .none))) (Am (sIf (Bs Ff (Ad "call") (An .none)) (Am (Bw (Az Jv (Af (A1 (Ad "task") "queues") (Af (Ad "call") Ap)))) (Am (Bw (Az F1 (Af (Ad "task") (Af (Ad "index") (Af (Ad "call") Ap))))) (Am (C4 (An .none)) Aq))) Aq) Aq)) 1000) (Am (sIf (Cz (Ad "has_else")) (Am (Bj (Mg (Af (An (.str "else")) Ap)) (Ad "task") "answer") (Am (C4 (An .none)) Aq)) Aq) (Am (Bw (Az Mq (Af (Ad "tasking") (Af (Ad "task") (Af (Ad "alternatives") Ap))))) Aq)))))))
theorem Wb:Cs 2 ⟨fS (Ba 47),[],[],[]⟩ (fB (Ba 47)) Hd:=(Ab (As A2 Aa) (Ab (As A2 Aa) (Ab (Bn (Bx (A0 (by kernel_rfl) Jx (Be.le Lh (by omega)) Jy (Ag Aa Ai))) (Ab Et Aj) Aj) (Ab (Bn (Cd (Bz (A5 Aa (B9 Ai) @Du rfl) (Bz (E5 (Bx Aa)) Co))) C6 Aj) (Ab (Da 1000 Aa (Oy (.cons (by kernel_rfl) (.cons (by kernel_rfl) (.cons (by kernel_rfl) .nil)))) rfl (Ab (Bf (K1 (A5 Aa A3 @Du rfl) (A0 (by kernel_rfl) Wg (Be.le Aab (by omega)) Wt (Ag (Ao Aa) (Ag Aa Ai))) A2)) (Ab (Bn (A5 Aa A2 @Fh rfl) (Ab (Bc (A0 (by kernel_rfl) Ud (Be.le W9 (by omega)) Us (Ag (Ao Aa) (Ag Aa Ai)))) (Ab (Bc (A0 (by kernel_rfl) Kk (Be.le L8 (by omega)) Ko (Ag Aa (Ag Aa (Ag Aa Ai))))) (Ab Et Aj))) Aj) Aj))) (Ab (Bn (Bx Aa) (Ab (As (E6 (Ag A3 Ai)) Aa) (Ab Et Aj)) Aj) (Ab (Bc (A0 (by kernel_rfl) Zu (Be.le Acg (by omega)) Z4 (Ag Aa (Ag Aa (Ag Aa Ai))))) Aj)))))))
noncomputable def Dk:Fd:=C0 ["tasking", "task", "alternatives", "has_else"] Hd
theorem Xb:Be 3 285 Dk:=Bh Wb (fun J=>⟨_,_,_,_,_,_,rfl,by kernel_rfl⟩) (by kernel_rfl) (bd4 fun J J J J J J J J J J=>rfl)
noncomputable def Lp:SD:=(Am (Bj (An .none) (Ad "task") "answer") (Am (Bj (An .none) (Ad "task") "raised") (Am (sIf (Dg (Gk (Cz (Az Gq (Af (Ad "task") Ap)))) (Dg (Bs (K2 fun a b=>decide (a > b)) (Ad "wait") (An (.int 0))) (Cp true))) (Am (Bj (An (.str "delayed")) (Ad "task") "state") (Am (Bj (Az La (Af (A1 (Ad "tasking") "clock") (Af (Ad "wait") Ap))) (Ad "task") "wake") Aq)) Aq) Aq)))
theorem Y3:Cs 1 ⟨fS (Ba 49),[],[],[]⟩ (fB (Ba 49)) Lp:=(Ab (As A2 Aa) (Ab (As A2 Aa) (Ab (Bn (Cd (Bz (E5 (Bx (A0 (by kernel_rfl) Jx (Be.le Lh (by omega)) Jy (Ag Aa Ai)))) (Bz (A5 Aa A9 @Amw rfl) Co))) (Ab (As (Bl (by kernel_rfl) T6) Aa) (Ab (As (A0 (by kernel_rfl) N5 (Be.le P2 (by omega)) N7 (Ag (Ao Aa) (Ag Aa Ai))) Aa) Aj)) Aj) Aj)))
noncomputable def K6:Fd:=C0 ["tasking", "task", "wait"] Lp
theorem Aaa:Be 2 299 K6:=Bh Y3 (fun J=>⟨_,_,_,_,_,_,rfl,by kernel_rfl⟩) (by kernel_rfl) (bd3 fun J J J J J J J J J=>rfl)
noncomputable def Ly:SD:=(Am (sIf (Bs cEq (A1 (Ad "task") "state") (An (.str "calling"))) Ez (Am (sIf (Bs cEq (A1 (Ad "task") "state") (An (.str "accepting"))) (Am (Bw (Az Gc (Af (Ad "task") (Af (Mg (Af (An (.str "delay")) (Af (A1 (Ad "task") "late") Ap))) (Af (An .none) Ap))))) Aq) (Am (Bw (Az Gc (Af (Ad "task") (Af (An .none) (Af (An .none) Ap))))) Aq)) Aq)) Aq)
theorem Zf:Cs 1 ⟨fS (Ba 50),[],[],[]⟩ (fB (Ba 50)) Ly:=(Ab (Bn (A5 (Ao Aa) (Bl (by kernel_rfl) Ld) @Du rfl) C6 (Ab (Bn (A5 (Ao Aa) (Bl (by kernel_rfl) Ia) @Du rfl) (Ab (Bc (A0 (by kernel_rfl) Iw (Be.le Ks (by omega)) Iy (Ag Aa (Ag (E6 (Ag A3 (Ag (Ao Aa) Ai))) (Ag A2 Ai))))) Aj) (Ab (Bc (A0 (by kernel_rfl) Iw (Be.le Ks (by omega)) Iy (Ag Aa (Ag A2 (Ag A2 Ai))))) Aj)) Aj)) Aj)
noncomputable def H9:Fd:=C0 ["task"] Ly
theorem Aaj:Be 2 306 H9:=Bh Zf (fun J=>⟨_,_,_,_,_,_,rfl,by kernel_rfl⟩) (by kernel_rfl) (bd1 fun J J J J J J J=>rfl)
noncomputable def Jz:SD:=(Am (Bj (Ad "number") (Ad "self") "number") (Am (Bj (Ad "owner") (Ad "self") "owner") (Am (Bj (Eg Ail Ap) (Ad "self") "dependents") (Am (Bj (An (.bool false)) (Ad "self") "is_ended") Aq))))
theorem V3:Cs 0 ⟨fS (mAt 52 0),[],[],[]⟩ (fB (mAt 52 0)) Jz:=(Ab (As Aa Aa) (Ab (As Aa Aa) (Ab (As (Dz (nm:=Ail) Ai) Aa) (Ab (As B4 Aa) Aj))))
noncomputable def N2:Fd:=C0 ["self", "number", "owner"] Jz
theorem W3:Be 1 320 N2:=Bh V3 (fun J=>⟨_,_,_,_,_,_,rfl,by kernel_rfl⟩) (by kernel_rfl) (bd3 fun J J J J J J J J J=>rfl)
noncomputable def Pe:Fd:=Zl 323 Aim N2
theorem Ab8:Be 2 323 Pe:=Kb rfl (fun P=>by kernel_rfl) (fun P=>by kernel_rfl) (fun P=>by kernel_rfl) W3
noncomputable def J6:SD:=(Am (Bb "master" (Az Pe (Af (X3 496 "next_number" Dx (Ad "tasking")) (Af (Ad "task") Ap)))) (Am (Bw (Ed "list" Ck (A1 (Ad "task") "masters") (Af (Ad "master") Ap))) (Am (C4 (Ad "master")) Aq)))
theorem Wa:Cs 2 ⟨fS (Ba 53),[],[],[]⟩ (fB (Ba 53)) J6:=(Ab (Bf (A0 (by kernel_rfl) Yb (Be.le Ab8 (by omega)) Yh (Ag (Qn Aa (N:=495) rfl (fun P=>by kernel_rfl) (fun P=>On P) (fun P=>by kernel_rfl) (fun P=>by kernel_rfl) (fun P=>by kernel_rfl) (fun P=>by kernel_rfl) M3 (Be.le Fa (by omega))) (Ag Aa Ai)))) (Ab (Bc (D9 PySem.F.plainAttrs_list PySem.F.slot_list_append PySem.F.type_list_append @Ex (Ao Aa) (Ag Aa Ai))) (Ab (Bq Aa) Aj)))
noncomputable def Jw:Fd:=C0 ["tasking", "task"] J6
theorem Xa:Be 3 334 Jw:=Bh Wa (fun J=>⟨_,_,_,_,_,_,rfl,by kernel_rfl⟩) (by kernel_rfl) (bd2 fun J J J J J J J J=>rfl)
noncomputable def Jq:SD:=(Am (sIf (Bs (K2 fun a b=>decide (a ≥ b)) (Az F7 (Af (A1 (Ad "tasking") "tasks") Ap)) (A1 (A1 (Ad "tasking") "limits") "tasks")) Ez Aq) (Am (Bb "task" (Az I9 (Af (X3 496 "next_number" Dx (Ad "tasking")) (Af (Ad "name") (Af (Ad "master") Ap))))) (Am (Bj (Abp (Kf Ff (A1 (Ad "master") "owner") (An .none)) (A1 (A1 (Ad "master") "owner") "is_abnormal")) (Ad "task") "is_abnormal") (Am (Bw (Ed "list" Ck (A1 (Ad "master") "dependents") (Af (Ad "task") Ap))) (Am (Bw (Ed "list" Ck (A1 (Ad "tasking") "tasks") (Af (Ad "task") Ap))) (Am (C4 (Ad "task")) Aq))))))
theorem Abc:Cs 2 ⟨fS (Ba 54),[],[],[]⟩ (fB (Ba 54)) Jq:=(Ab (Bn (A5 (I7 (by kernel_rfl) I1 Ef.1 Ef.2 @Io (Ag (Ao Aa) Ai)) (Ao (Ao Aa)) @Amv rfl) C6 Aj) (Ab (Bf (A0 (by kernel_rfl) Zo (Be.le Ab9 (by omega)) Zy (Ag (Qn Aa (N:=495) rfl (fun P=>by kernel_rfl) (fun P=>On P) (fun P=>by kernel_rfl) (fun P=>by kernel_rfl) (fun P=>by kernel_rfl) (fun P=>by kernel_rfl) M3 (Be.le Fa (by omega))) (Ag Aa (Ag Aa Ai))))) (Ab (As (Gy (Mj (Ej (Ao Aa) A2 @Fh rfl) (Kc (Ao (Ao Aa))))) Aa) (Ab (Bc (D9 PySem.F.plainAttrs_list PySem.F.slot_list_append PySem.F.type_list_append @Ex (Ao Aa) (Ag Aa Ai))) (Ab (Bc (D9 PySem.F.plainAttrs_list PySem.F.slot_list_append PySem.F.type_list_append @Ex (Ao Aa) (Ag Aa Ai))) (Ab (Bq Aa) Aj))))))
noncomputable def Gb:Fd:=C0 ["tasking", "name", "master", "line"] Jq
theorem R2:Be 3 341 Gb:=Bh Abc (fun J=>⟨_,_,_,_,_,_,rfl,by kernel_rfl⟩) (by kernel_rfl) (bd4 fun J J J J J J J J J J=>rfl)
noncomputable def Fq:SD:=(Am (Ey (Ad "fresh") (B3 "task") (Am (sIf (Bs cEq (A1 (Ad "task") "state") (An (.str "fresh"))) (Am (Bj (An (.str "ready")) (Ad "task") "state") (Am (Bj (Ad "activator") (Ad "task") "activator") (Am (sIf (Bs Ff (Ad "activator") (An .none)) (Am (R6 Pb (Ad "activator") "pending" (An (.int 1))) (Am (Bj (An (.str "activating")) (Ad "activator") "state") Aq)) Aq) Aq))) Aq) Aq) 1000) Aq)
theorem Qs:Cs 0 ⟨fS (Ba 55),[],[],[]⟩ (fB (Ba 55)) Fq:=(Ab (Da 1000 Aa Bt rfl (Ab (Bn (A5 (Ao Aa) (Bl (by kernel_rfl) Pi) @Du rfl) (Ab (As (Bl (by kernel_rfl) T7) Aa) (Ab (As Aa Aa) (Ab (Bn (A5 Aa A2 @Fh rfl) (Ab (Nh Aa A9 (by decide) @Li) (Ab (As (Bl (by kernel_rfl) N3) Aa) Aj)) Aj) Aj))) Aj) Aj)) Aj)
noncomputable def D1:Fd:=C0 ["activator", "fresh"] Fq
theorem Kq:Be 1 348 D1:=Bh Qs (fun J=>⟨_,_,_,_,_,_,rfl,by kernel_rfl⟩) (by kernel_rfl) (bd2 fun J J J J J J J J=>rfl)
noncomputable def Fr:SD:=(Am (Bb "activator" (A1 (Ad "task") "activator")) (Am (Bj (An .none) (Ad "task") "activator") (Am (sIf (Bs cIs (Ad "activator") (An .none)) (Am (C4 (An .none)) Aq) Aq) (Am (R6 Agg (Ad "activator") "pending" (An (.int 1))) (Am (Bj (dOr (A1 (Ad "activator") "has_failed") (Ad "has_failed")) (Ad "activator") "has_failed") (Am (sIf (Dg (Bs cEq (A1 (Ad "activator") "pending") (An (.int 0))) (Dg (Bs cEq (A1 (Ad "activator") "state") (An (.str "activating"))) (Cp true))) (Am (Bb "raised" (dIf (Cz (A1 (Ad "activator") "has_failed")) (Mg (Af (An (.str "tasking_error")) (Af (An (.str "a task could not be activated")) Ap))) (An .none))) (Am (Bj (An (.bool false)) (Ad "activator") "has_failed") (Am (Bw (Az Gc (Af (Ad "activator") (Af (An .none) (Af (Ad "raised") Ap))))) Aq))) Aq) Aq))))))
theorem Qt:Cs 1 ⟨fS (Ba 56),[],[],[]⟩ (fB (Ba 56)) Fr:=(Ab (Bf (Ao Aa)) (Ab (As A2 Aa) (Ab (Bn (A5 Aa A2 @P6 rfl) (Ab Et Aj) Aj) (Ab (Nh Aa A9 (by decide) @Aam) (Ab (As (Gy (Aeu (Ao Aa) (Kc Aa))) Aa) (Ab (Bn (Cd (Bz (A5 (Ao Aa) A9 @Du rfl) (Bz (A5 (Ao Aa) (Bl (by kernel_rfl) N3) @Du rfl) Co))) (Ab (Bf (K1 (Bx (Ao Aa)) (E6 (Ag (Bl (by kernel_rfl) Q0) (Ag A3 Ai))) A2)) (Ab (As B4 Aa) (Ab (Bc (A0 (by kernel_rfl) Iw (Be.le Ks (by omega)) Iy (Ag Aa (Ag A2 (Ag Aa Ai))))) Aj))) Aj) Aj))))))
noncomputable def Ea:Fd:=C0 ["task", "has_failed"] Fr
theorem Kr:Be 2 355 Ea:=Bh Qt (fun J=>⟨_,_,_,_,_,_,rfl,by kernel_rfl⟩) (by kernel_rfl) (bd2 fun J J J J J J J J=>rfl)
noncomputable def I2:SD:=(Am (C4 (Kf cEq (C3 (A1 (Ad "master") "dependents") (B3 "task") (Bs cNe (A1 (Ad "task") "state") (An (.str "done"))) (Ad "task") [] 1000) (Db Ap))) Aq)
theorem Ada:Cs 0 ⟨fS (Ba 57),[],[],[]⟩ (fB (Ba 57)) I2:=(Ab (Bq (Ej (Dy (own:=none) (fr:=[]) (by decide) (C9 (by kernel_rfl)) (Ao Aa) Bt rfl (D0 (A5 (Ao Aa) (Bl (by kernel_rfl) Le) @Fs rfl)) Aa) (B9 Ai) @Du rfl)) Aj)
noncomputable def Dm:Fd:=C0 ["master"] I2
theorem Om:Be 1 360 Dm:=Bh Ada (fun J=>⟨_,_,_,_,_,_,rfl,by kernel_rfl⟩) (by kernel_rfl) (bd1 fun J J J J J J J=>rfl)
noncomputable def R7:SD:=(Am (Ey (Az Go (Af (A1 (Ad "task") "queues") Ap)) (B3 "call") Ez 1000) (Am (Bj (An (.str "done")) (Ad "task") "state") Aq))
theorem Aba:Cs 2 ⟨fS (Ba 58),[],[],[]⟩ (fB (Ba 58)) R7:=(Ab (Da 1000 (A0 (by kernel_rfl) L4 (Be.le M0 (by omega)) L6 (Ag (Ao Aa) Ai)) Bt rfl C6) (Ab (As (Bl (by kernel_rfl) Le) Aa) Aj))
noncomputable def Rs:Fd:=C0 ["task"] R7
theorem Aca:Be 3 367 Rs:=Bh Aba (fun J=>⟨_,_,_,_,_,_,rfl,by kernel_rfl⟩) (by kernel_rfl) (bd1 fun J J J J J J J=>rfl)
noncomputable def Ie:SD:=(Am (Ey (A1 (Ad "master") "dependents") (B3 "task") (Am (sIf (Bs cEq (A1 (Ad "task") "state") (An (.str "fresh"))) (Am (Bw (Az Rs (Af (Ad "task") Ap))) Aq) Aq) Aq) 1000) Aq)
theorem Y4:Cs 3 ⟨fS (Ba 59),[],[],[]⟩ (fB (Ba 59)) Ie:=(Ab (Da 1000 (Ao Aa) Bt rfl (Ab (Bn (A5 (Ao Aa) (Bl (by kernel_rfl) Pi) @Du rfl) (Ab (Bc (A0 (by kernel_rfl) Zp (Be.le Aca (by omega)) Zz (Ag Aa Ai))) Aj) Aj) Aj)) Aj)
noncomputable def Gp:Fd:=C0 ["master"] Ie
theorem Py:Be 4 374 Gp:=Bh Y4 (fun J=>⟨_,_,_,_,_,_,rfl,by kernel_rfl⟩) (by kernel_rfl) (bd1 fun J J J J J J J=>rfl)
noncomputable def F5:SD:=(Am (Ey (Az Go (Af (A1 (Ad "task") "queues") Ap)) (B3 "call") Ez 1000) (Am (D5 (Cz (A1 (Ad "task") "serving")) Ez 1000) (Am (Bj (Db Ap) (Ad "task") "open") (Am (Bj (An .none) (Ad "task") "wake") (Am (Bj (An (.str "completed")) (Ad "task") "state") (Am (Ey (A1 (Ad "task") "masters") (B3 "master") (Am (Bw (Az Gp (Af (Ad "master") Ap))) (Am (Bj (An (.bool true)) (Ad "master") "is_ended") Aq)) 1000) (Am (Bw (Az Ea (Af (Ad "task") (Af (Ahu (A1 (Ad "task") "is_abnormal")) Ap)))) Aq)))))))
theorem Si:Cs 4 ⟨fS (Ba 60),[],[],[]⟩ (fB (Ba 60)) F5:=(Ab (Da 1000 (A0 (by kernel_rfl) L4 (Be.le M0 (by omega)) L6 (Ag (Ao Aa) Ai)) Bt rfl C6) (Ab (Gz 1000 (Bx (Ao Aa)) C6) (Ab (As (B9 Ai) Aa) (Ab (As A2 Aa) (Ab (As (Bl (by kernel_rfl) Gr) Aa) (Ab (Da 1000 (Ao Aa) Bt rfl (Ab (Bc (A0 (by kernel_rfl) N4 (Be.le Py (by omega)) N6 (Ag Aa Ai))) (Ab (As B4 Aa) Aj))) (Ab (Bc (A0 (by kernel_rfl) Jg (Be.le Kr (by omega)) Jj (Ag Aa (Ag (Aa7 (Ao Aa)) Ai)))) Aj)))))))
noncomputable def C7:Fd:=C0 ["task"] F5
theorem L9:Be 5 381 C7:=Bh Si (fun J=>⟨_,_,_,_,_,_,rfl,by kernel_rfl⟩) (by kernel_rfl) (bd1 fun J J J J J J J=>rfl)
noncomputable def J0:SD:=(Am (Bw (Az Gp (Af (A1 (Ad "tasking") "library") Ap))) (Am (Bj (An (.bool true)) (A1 (Ad "tasking") "library") "is_ended") Aq))
theorem V4:Cs 4 ⟨fS (Ba 61),[],[],[]⟩ (fB (Ba 61)) J0:=(Ab (Bc (A0 (by kernel_rfl) N4 (Be.le Py (by omega)) N6 (Ag (Ao Aa) Ai))) (Ab (As B4 (Ao Aa)) Aj))
noncomputable def G6:Fd:=C0 ["tasking"] J0
theorem W4:Be 5 388 G6:=Bh V4 (fun J=>⟨_,_,_,_,_,_,rfl,by kernel_rfl⟩) (by kernel_rfl) (bd1 fun J J J J J J J=>rfl)
noncomputable def Gw:SD:=(Am (Bb "is_moved" (An (.bool false))) (Am (Ey (A1 (Ad "tasking") "tasks") (B3 "task") (Am (sIf (Dg (Cz (A1 (Ad "task") "is_abnormal")) (Dg (Bs cNe (A1 (Ad "task") "state") (An (.str "completed"))) (Dg (Bs cNe (A1 (Ad "task") "state") (An (.str "done"))) (Dg (Gk (Cz Adg)) (Cp true))))) Ez Aq) Aq) 1000) (Am (C4 (Ad "is_moved")) Aq)))
theorem O1:Cs 1 ⟨fS (Ba 64),[],[],[]⟩ (fB (Ba 64)) Gw:=(Ab (Bf B4) (Ab (Da 1000 (Ao Aa) Bt rfl (Ab (Bn (Cd (Bz (Bx (Ao Aa)) (Bz (A5 (Ao Aa) (Bl (by kernel_rfl) Gr) @Fs rfl) (Bz (A5 (Ao Aa) (Bl (by kernel_rfl) Le) @Fs rfl) (Bz (E5 (Bx Ac5)) Co))))) C6 Aj) Aj)) (Ab (Bq Aa) Aj)))
noncomputable def Fc:Fd:=C0 ["tasking"] Gw
theorem P0:Be 2 409 Fc:=Bh O1 (fun J=>⟨_,_,_,_,_,_,rfl,by kernel_rfl⟩) (by kernel_rfl) (bd1 fun J J J J J J J=>rfl)
noncomputable def J8:SD:=(Am (Bb "is_moved" (An (.bool false))) (Am (Ey (A1 (Ad "tasking") "tasks") (B3 "task") (Am (sIf (Dg (Bs cEq (A1 (Ad "task") "state") (An (.str "leaving"))) (Dg (Cz (Az Dm (Af (Bg (A1 (Ad "task") "masters") (Aht (An (.int 1)))) Ap))) (Cp true))) Ez (Am (sIf (Dg (Bs cEq (A1 (Ad "task") "state") (An (.str "completed"))) (Dg (Bs cEq (C3 (A1 (Ad "task") "masters") (B3 "one") (Gk (Cz (Az Dm (Af (Ad "one") Ap)))) (Ad "one") [] 1000) (Db Ap)) (Cp true))) (Am (Bj (An (.str "done")) (Ad "task") "state") (Am (Bb "is_moved" (An (.bool true))) Aq)) Aq) Aq)) Aq) 1000) (Am (C4 (Ad "is_moved")) Aq)))
theorem Wd:Cs 1 ⟨fS (Ba 65),[],[],[]⟩ (fB (Ba 65)) J8:=(Ab (Bf B4) (Ab (Da 1000 (Ao Aa) Bt rfl (Ab (Bn (Cd (Bz (A5 (Ao Aa) (Bl (by kernel_rfl) Adm) @Du rfl) (Bz (Bx (A0 (by kernel_rfl) Mr (Be.le Om (by omega)) My (Ag (A6 (Ao Aa) (Aa6 A9)) Ai))) Co))) C6 (Ab (Bn (Cd (Bz (A5 (Ao Aa) (Bl (by kernel_rfl) Gr) @Du rfl) (Bz (A5 (Dy (own:=none) (fr:=[]) (by decide) (C9 (by kernel_rfl)) (Ao Aa) Bt rfl (D0 (E5 (Bx (A0 (by kernel_rfl) Mr (Be.le Om (by omega)) My (Ag Aa Ai))))) Aa) (B9 Ai) @Du rfl) Co))) (Ab (As (Bl (by kernel_rfl) Le) Aa) (Ab (Bf B4) Aj)) Aj) Aj)) Aj)) (Ab (Bq Aa) Aj)))
noncomputable def Ha:Fd:=C0 ["tasking"] J8
theorem Xd:Be 2 414 Ha:=Bh Wd (fun J=>⟨_,_,_,_,_,_,rfl,by kernel_rfl⟩) (by kernel_rfl) (bd1 fun J J J J J J J=>rfl)
noncomputable def Hv:SD:=(Am (C4 (Abp (Kf cEq (A1 (Ad "task") "state") (An (.str "accepting"))) (Kf cNe (C3 (A1 (Ad "task") "open") (Rm ["index", "kind", "data"]) (Bs cEq (Ad "kind") (An (.str "terminate"))) (Ad "kind") [] 1000) (Db Ap)))) Aq)
theorem Sh:Cs 0 ⟨fS (Ba 66),[],[],[]⟩ (fB (Ba 66)) Hv:=(Ab (Bq (Gy (Mj (Ej (Ao Aa) (Bl (by kernel_rfl) Ia) @Du rfl) (Kc (Ej (Dy (own:=none) (fr:=[]) (by decide) (C9 (by kernel_rfl)) (Ao Aa) (Oy (.cons (by kernel_rfl) (.cons (by kernel_rfl) (.cons (by kernel_rfl) .nil)))) rfl (D0 (A5 Aa A3 @Du rfl)) Aa) (B9 Ai) @Fs rfl))))) Aj)
noncomputable def B6:Fd:=C0 ["task"] Hv
theorem F3:Be 1 419 B6:=Bh Sh (fun J=>⟨_,_,_,_,_,_,rfl,by kernel_rfl⟩) (by kernel_rfl) (bd1 fun J J J J J J J=>rfl)
noncomputable def Ep (rec:Fd):SD:=(Am (sIf (Bs cEq (A1 (Ad "task") "state") (An (.str "done"))) (Am (C4 (An (.bool true))) Aq) Aq) (Am (sIf (Dg (Gk (Cz (Az B6 (Af (Ad "task") Ap)))) (Dg (Bs cNe (A1 (Ad "task") "state") (An (.str "completed"))) (Cp true))) (Am (C4 (An (.bool false))) Aq) Aq) (Am (Ey (A1 (Ad "task") "masters") (B3 "master") (Am (Ey (A1 (Ad "master") "dependents") (B3 "other") (Am (sIf (Gk (Cz (Az rec (Af (Ad "other") Ap)))) (Am (C4 (An (.bool false))) Aq) Aq) Aq) 1000) Aq) 1000) (Am (C4 (An (.bool true))) Aq))))
theorem Adc {rec:Fd} {k:Nat} (hk:1≤k) (hrec:Be k 426 rec):Cs k ⟨fS (Ba 67),[],[],[]⟩ (fB (Ba 67)) (Ep rec):=(Ab (Bn (A5 (Ao Aa) (Bl (by kernel_rfl) Le) @Du rfl) (Ab (Bq B4) Aj) Aj) (Ab (Bn (Cd (Bz (E5 (Bx (A0 (by kernel_rfl) Fn (Be.le F3 (by omega)) Fp (Ag Aa Ai)))) (Bz (A5 (Ao Aa) (Bl (by kernel_rfl) Gr) @Fs rfl) Co))) (Ab (Bq B4) Aj) Aj) (Ab (Da 1000 (Ao Aa) Bt rfl (Ab (Da 1000 (Ao Aa) Bt rfl (Ab (Bn (E5 (Bx (A0 (by kernel_rfl) Rw hrec Rz (Ag Aa Ai)))) (Ab (Bq B4) Aj) Aj) Aj)) Aj)) (Ab (Bq B4) Aj))))
noncomputable def Dp:Nat→Fd
 | 0=>fun J J=>none
 | n + 1=>C0 ["task"] (Ep (Dp n))
theorem U0:∀ n,Be (1 + n) 426 (Dp n)
 | 0=>fun J J J J J h=>by cases h
 | n + 1=>Bh (Adc (Nat.le_add_right _ _) (U0 n)) (fun J=>⟨_,_,_,_,_,_,rfl,by kernel_rfl⟩) (by kernel_rfl) (bd1 fun J J J J J J J=>rfl)
noncomputable def Hw:SD:=(Am (Bb "found" (dIf (Cz (A1 (A1 (Ad "tasking") "library") "is_ended")) (Eg (fun _ σ=>some (.tmp σ.n)) (Af (A1 (Ad "tasking") "library") Ap)) (Eg (fun _ σ=>some (.tmp σ.n)) Ap))) (Am (Ey (A1 (Ad "tasking") "tasks") (B3 "task") (Am (Bw (Ed "list" Nt (Ad "found") (Af (C3 (A1 (Ad "task") "masters") (B3 "master") (Cz (A1 (Ad "master") "is_ended")) (Ad "master") [] 1000) Ap))) Aq) 1000) (Am (C4 (Ad "found")) Aq)))
theorem Sj:Cs 0 ⟨fS (Ba 68),[],[],[]⟩ (fB (Ba 68)) Hw:=(Ab (Bf (K1 (Bx (Ao (Ao Aa))) (Dz (nm:=(fun _ σ=>some (.tmp σ.n))) (Ag (Ao Aa) Ai)) (Dz (nm:=(fun _ σ=>some (.tmp σ.n))) Ai))) (Ab (Da 1000 (Ao Aa) Bt rfl (Ab (Bc (D9 PySem.F.plainAttrs_list PySem.F.slot_list_extend PySem.F.type_list_extend @Ag1 Aa (Ag (Dy (own:=none) (fr:=[]) (by decide) (C9 (by kernel_rfl)) (Ao Aa) Bt rfl (D0 (Bx (Ao Aa))) Aa) Ai))) Aj)) (Ab (Bq Aa) Aj)))
noncomputable def Hq:Fd:=C0 ["tasking"] Hw
theorem Sq:Be 1 431 Hq:=Bh Sj (fun J=>⟨_,_,_,_,_,_,rfl,by kernel_rfl⟩) (by kernel_rfl) (bd1 fun J J J J J J J=>rfl)
noncomputable def De (rec:Fd):SD:=(Am (Ey (A1 (Ad "task") "masters") (B3 "master") (Am (Ey (A1 (Ad "master") "dependents") (B3 "other") (Am (Bw (Az rec (Af (Ad "other") Ap))) Aq) 1000) Aq) 1000) (Am (sIf (Cz (Az B6 (Af (Ad "task") Ap))) (Am (Bw (Az C7 (Af (Ad "task") Ap))) Aq) Aq) Aq))
theorem O2 {rec:Fd} {k:Nat} (hk:5≤k) (hrec:Be k 438 rec):Cs k ⟨fS (Ba 69),[],[],[]⟩ (fB (Ba 69)) (De rec):=(Ab (Da 1000 (Ao Aa) Bt rfl (Ab (Da 1000 (Ao Aa) Bt rfl (Ab (Bc (A0 (by kernel_rfl) Iv hrec Ix (Ag Aa Ai))) Aj)) Aj)) (Ab (Bn (Bx (A0 (by kernel_rfl) Fn (Be.le F3 (by omega)) Fp (Ag Aa Ai))) (Ab (Bc (A0 (by kernel_rfl) Kl (Be.le L9 (by omega)) Kp (Ag Aa Ai))) Aj) Aj) Aj))
noncomputable def Cr:Nat→Fd
 | 0=>fun J J=>none
 | n + 1=>C0 ["task"] (De (Cr n))
theorem Jl:∀ n,Be (5 + n) 438 (Cr n)
 | 0=>fun J J J J J h=>by cases h
 | n + 1=>Bh (O2 (Nat.le_add_right _ _) (Jl n)) (fun J=>⟨_,_,_,_,_,_,rfl,by kernel_rfl⟩) (by kernel_rfl) (bd1 fun J J J J J J J=>rfl)
noncomputable def Es:SD:=(Am (Bb "is_moved" (An (.bool false))) (Am (Ey (Az Hq (Af (Ad "tasking") Ap)) (B3 "master") (Am (sIf (Dg (Gk (Cz (Az Dm (Af (Ad "master") Ap)))) (Dg (Bs cEq (C3 (A1 (Ad "master") "dependents") (B3 "task") (Gk (Cz (Az (Dp 40) (Af (Ad "task") Ap)))) (Ad "task") [] 1000) (Db Ap)) (Cp true))) (Am (Bb "waiting" (C3 (A1 (Ad "tasking") "tasks") (B3 "task") (Cz (Az B6 (Af (Ad "task") Ap))) (Ad "task") [] 1000)) (Am (Ey (A1 (Ad "master") "dependents") (B3 "task") (Am (Bw (Az (Cr 40) (Af (Ad "task") Ap))) Aq) 1000) (Am (sIf (Bs cNe (C3 (Ad "waiting") (B3 "task") (Gk (Cz (Az B6 (Af (Ad "task") Ap)))) (Ad "task") [] 1000) (Db Ap)) (Am (Bb "is_moved" (An (.bool true))) Aq) Aq) Aq))) Aq) Aq) 1000) (Am (C4 (Ad "is_moved")) Aq)))
theorem Ny:Cs 45 ⟨fS (Ba 70),[],[],[]⟩ (fB (Ba 70)) Es:=(Ab (Bf B4) (Ab (Da 1000 (A0 (by kernel_rfl) Q1 (Be.le Sq (by omega)) Q4 (Ag Aa Ai)) Bt rfl (Ab (Bn (Cd (Bz (E5 (Bx (A0 (by kernel_rfl) Mr (Be.le Om (by omega)) My (Ag Aa Ai)))) (Bz (A5 (Dy (own:=none) (fr:=[]) (by decide) (C9 (by kernel_rfl)) (Ao Aa) Bt rfl (D0 (E5 (Bx (A0 (by kernel_rfl) Rw (Be.le (U0 40) (by omega)) Rz (Ag Aa Ai))))) Aa) (B9 Ai) @Du rfl) Co))) (Ab (F0 (own:=none) (fr:=[]) (by decide) (C9 (by kernel_rfl)) (Ao Aa) Bt rfl (D0 (Bx (A0 (by kernel_rfl) Fn (Be.le F3 (by omega)) Fp (Ag Aa Ai)))) Aa (by kernel_rfl) (by kernel_rfl)) (Ab (Da 1000 (Ao Aa) Bt rfl (Ab (Bc (A0 (by kernel_rfl) Iv (Be.le (Jl 40) (by omega)) Ix (Ag Aa Ai))) Aj)) (Ab (Bn (A5 (Dy (own:=none) (fr:=[]) (by decide) (C9 (by kernel_rfl)) Aa Bt rfl (D0 (E5 (Bx (A0 (by kernel_rfl) Fn (Be.le F3 (by omega)) Fp (Ag Aa Ai))))) Aa) (B9 Ai) @Fs rfl) (Ab (Bf B4) Aj) Aj) Aj))) Aj) Aj)) (Ab (Bq Aa) Aj)))
noncomputable def C2:Fd:=C0 ["tasking"] Es
theorem N0:Be 46 443 C2:=Bh Ny (fun J=>⟨_,_,_,_,_,_,rfl,by kernel_rfl⟩) (by kernel_rfl) (bd1 fun J J J J J J J=>rfl)
noncomputable def I5:SD:=(Am (D5 (bOr (Cz (Az Fc (Af (Ad "tasking") Ap))) (bOr (Cz (Az Ha (Af (Ad "tasking") Ap))) (bOr (Cz (Az C2 (Af (Ad "tasking") Ap))) (Cp false)))) (Am (R6 Pb (Ad "tasking") "settled" (An (.int 1))) Aq) 1000) Aq)
theorem Tu:Cs 46 ⟨fS (Ba 71),[],[],[]⟩ (fB (Ba 71)) I5:=(Ab (Gz 1000 (Cd (Ek (Bx (A0 (by kernel_rfl) Oi (Be.le P0 (by omega)) Ol (Ag Aa Ai))) (Ek (Bx (A0 (by kernel_rfl) Uh (Be.le Xd (by omega)) Uw (Ag Aa Ai))) (Ek (Bx (A0 (by kernel_rfl) Ms (Be.le N0 (by omega)) Mz (Ag Aa Ai))) Fe)))) (Ab (Nh Aa A9 (by decide) @Li) Aj)) Aj)
noncomputable def Dq:Fd:=C0 ["tasking"] I5
theorem M1:Be 47 450 Dq:=Bh Tu (fun J=>⟨_,_,_,_,_,_,rfl,by kernel_rfl⟩) (by kernel_rfl) (bd1 fun J J J J J J J=>rfl)
noncomputable def Oa:SD:=(Am (Bj (Ad "width") (Ad "self") "width") (Am (Bj (Ad "steps") (Ad "self") "steps") (Am (Bj (Ad "depth") (Ad "self") "depth") (Am (Bj (Ad "members") (Ad "self") "members") (Am (Bj (Ad "text") (Ad "self") "text") (Am (Bj (Ad "tasks") (Ad "self") "tasks") (Am (Bj (Ad "heap") (Ad "self") "heap") Aq)))))))
theorem V2:Cs 0 ⟨fS (mAt 73 0),[],[],[]⟩ (fB (mAt 73 0)) Oa:=(Ab (As Aa Aa) (Ab (As Aa Aa) (Ab (As Aa Aa) (Ab (As Aa Aa) (Ab (As Aa Aa) (Ab (As Aa Aa) (Ab (As Aa Aa) Aj)))))))
noncomputable def N1:Fd:=Ahx ["self", "width", "steps", "depth", "members", "text", "tasks", "heap"] Ams Oa
theorem W2:Be 1 465 N1:=Afy (T:=458) (fun P=>⟨_,_,_,_,_,_,rfl,by kernel_rfl⟩) Aoz rfl (by decide) (by intro x hx; revert x; decide +kernel) (by decide +kernel) (by kernel_rfl) (by kernel_rfl) (by kernel_rfl) V2
noncomputable def Pd:Fd:=Zl 468 (fun J J=>some .limits) N1
theorem Aih:Be 2 468 Pd:=Kb rfl (fun P=>by kernel_rfl) (fun P=>by kernel_rfl) (fun P=>by kernel_rfl) W2
noncomputable def M9:SD:=(Am (Bj (Ad "limits") (Ad "self") "limits") (Am (Bj (Ad "choose") (Ad "self") "choose") (Am (Bj (fun _ σ=>Ae1 [] σ) (Ad "self") "clock") (Am (Bj (Eg (fun J J=>some .tasksL) Ap) (Ad "self") "tasks") (Am (Bj (An (.int 0)) (Ad "self") "numbers") (Am (Bj (An (.int 0)) (Ad "self") "settled") (Am (Bj (Az Pe (Af (An (.int 0)) (Af (An .none) Ap))) (Ad "self") "library") (Am (Bj (Db Ap) (Ad "self") "lost") (Am (Bj (An .none) (Ad "self") "serve") Aq)))))))))
theorem Tq:Cs 2 ⟨fS (mAt 75 0),[],[],[]⟩ (fB (mAt 75 0)) M9:=(Ab (As Aa Aa) (Ab (As Aa Aa) (Ab (As (Rq (by kernel_rfl) Ah4 (Be.le Alh (by omega)) Aia) Aa) (Ab (As (Dz (nm:=(fun J J=>some .tasksL)) Ai) Aa) (Ab (As A9 Aa) (Ab (As A9 Aa) (Ab (As (A0 (by kernel_rfl) Yb (Be.le Ab8 (by omega)) Yh (Ag A9 (Ag A2 Ai))) Aa) (Ab (As (B9 Ai) Aa) (Ab (As A2 Aa) Aj)))))))))
noncomputable def Mo:Fd:=C0 ["self", "limits", "choose"] M9
theorem Uy:Be 3 486 Mo:=Bh Tq (fun J=>⟨_,_,_,_,_,_,rfl,by kernel_rfl⟩) (by kernel_rfl) (bd3 fun J J J J J J J J J=>rfl)
noncomputable def Nj:Fd:=Zl 496 (fun J J=>some .tasking) Mo
theorem Agx:Be 4 496 Nj:=Kb rfl (fun P=>by kernel_rfl) (fun P=>by kernel_rfl) (fun P=>by kernel_rfl) Uy
noncomputable def J7:SD:=(Am (C4 (C3 (A1 (Ad "tasking") "tasks") (B3 "task") (Bs cEq (A1 (Ad "task") "state") (An (.str "ready"))) (Ad "task") [] 1000)) Aq)
theorem Wc:Cs 0 ⟨fS (Ba 76),[],[],[]⟩ (fB (Ba 76)) J7:=(Ab (Bq (Dy (own:=none) (fr:=[]) (by decide) (C9 (by kernel_rfl)) (Ao Aa) Bt rfl (D0 (A5 (Ao Aa) (Bl (by kernel_rfl) T7) @Du rfl)) Aa)) Aj)
noncomputable def G9:Fd:=C0 ["tasking"] J7
theorem Xc:Be 1 505 G9:=Bh Wc (fun J=>⟨_,_,_,_,_,_,rfl,by kernel_rfl⟩) (by kernel_rfl) (bd1 fun J J J J J J J=>rfl)
noncomputable def Hy:SD:=(Am (C4 (C3 (A1 (Ad "tasking") "tasks") (B3 "task") (Dg (Bs cNe (A1 (Ad "task") "state") (An (.str "done"))) (Dg (Bs cNe (A1 (Ad "task") "state") (An (.str "fresh"))) (Cp true))) (A1 (Ad "task") "number") [] 1000)) Aq)
theorem Sl:Cs 0 ⟨fS (Ba 77),[],[],[]⟩ (fB (Ba 77)) Hy:=(Ab (Bq (Dy (own:=none) (fr:=[]) (by decide) (C9 (by kernel_rfl)) (Ao Aa) Bt rfl (D0 (Cd (Bz (A5 (Ao Aa) (Bl (by kernel_rfl) Le) @Fs rfl) (Bz (A5 (Ao Aa) (Bl (by kernel_rfl) Pi) @Fs rfl) Co)))) (Ao Aa))) Aj)
noncomputable def F2:Fd:=C0 ["tasking"] Hy
theorem Ss:Be 1 510 F2:=Bh Sl (fun J=>⟨_,_,_,_,_,_,rfl,by kernel_rfl⟩) (by kernel_rfl) (bd1 fun J J J J J J J=>rfl)
noncomputable def Nd:SD:=(Am (Bb "time" (Az Mp (Af (C3 (A1 (Ad "tasking") "tasks") (B3 "task") (Cp true) (A1 (Ad "task") "wake") [] 1000) Ap))) (Am (sIf (Bs cIs (Ad "time") (An .none)) Ez Aq) (Am (Bw (Az K9 (Af (A1 (Ad "tasking") "clock") (Af (Ad "time") Ap)))) (Am (Ey (A1 (Ad "tasking") "tasks") (B3 "task") (Am (sIf (Cz (Az Ki (Af (A1 (Ad "tasking") "clock") (Af (A1 (Ad "task") "wake") Ap)))) (Am (Bw (Az Jb (Af (Ad "tasking") (Af (Ad "task") Ap)))) (Am (Bw (Az H9 (Af (Ad "task") Ap))) Aq)) Aq) Aq) 1000) Aq))))
theorem Abf:Cs 2 ⟨fS (Ba 78),[],[],[]⟩ (fB (Ba 78)) Nd:=(Ab (Bf (A0 (by kernel_rfl) Zr (Be.le Acd (by omega)) Z1 (Ag (Dy (own:=none) (fr:=[]) (by decide) (C9 (by kernel_rfl)) (Ao Aa) Bt rfl Ni (Ao Aa)) Ai))) (Ab (Bn (A5 Aa A2 @P6 rfl) C6 Aj) (Ab (Bc (A0 (by kernel_rfl) Wk (Be.le Aaf (by omega)) Wx (Ag (Ao Aa) (Ag Aa Ai)))) (Ab (Da 1000 (Ao Aa) Bt rfl (Ab (Bn (Bx (A0 (by kernel_rfl) Yc (Be.le Acb (by omega)) Yi (Ag (Ao Aa) (Ag (Ao Aa) Ai)))) (Ab (Bc (A0 (by kernel_rfl) Zs (Be.le Ace (by omega)) Z2 (Ag Aa (Ag Aa Ai)))) (Ab (Bc (A0 (by kernel_rfl) Wo (Be.le Aaj (by omega)) W1 (Ag Aa Ai))) Aj)) Aj) Aj)) Aj))))
noncomputable def Jc:Fd:=C0 ["tasking"] Nd
theorem Acf:Be 3 515 Jc:=Bh Abf (fun J=>⟨_,_,_,_,_,_,rfl,by kernel_rfl⟩) (by kernel_rfl) (bd1 fun J J J J J J J=>rfl)
noncomputable def Os:SD:=(Am (Bb "late" (C3 (A1 (Ad "tasking") "tasks") (B3 "task") (Dg (Bs cEq (A1 (Ad "task") "state") (An (.str "calling"))) (Dg (Cz (Az Ki (Af (A1 (Ad "tasking") "clock") (Af (A1 (Ad "task") "wake") Ap)))) (Cp true))) (Ad "task") ["tasking"] 1000)) (Am (Ey (Ad "late") (B3 "task") Ez 1000) (Am (C4 (Kf cNe (Ad "late") (Db Ap))) Aq)))
theorem Adb:Cs 2 ⟨fS (Ba 79),["tasking"],[],[]⟩ (fB (Ba 79)) Os:=(Ab (F0 (own:=none) (fr:=["tasking"]) (by decide) (C9 (by kernel_rfl)) (Ao (Cy (by kernel_rfl))) Bt rfl (D0 (Cd (Bz (A5 (Ao Aa) (Bl (by kernel_rfl) Ld) @Du rfl) (Bz (Bx (A0 (by kernel_rfl) Yc (Be.le Acb (by omega)) Yi (Ag (Ao (Cy (by kernel_rfl))) (Ag (Ao Aa) Ai)))) Co)))) Aa (by kernel_rfl) (by kernel_rfl)) (Ab (Da 1000 Aa Bt rfl C6) (Ab (Bq (Ej Aa (B9 Ai) @Fs rfl)) Aj)))
noncomputable def K7:Fd:=C0 ["tasking"] Os
theorem Adu:Be 3 520 K7:=Mi Adb (fun J=>⟨_,_,_,_,_,_,rfl,by kernel_rfl⟩) (by kernel_rfl) (bd1 fun J J J J J J J=>rfl)
noncomputable def Lv:SD:=(Am (Bb "lost" (A1 (Ad "tasking") "lost")) (Am (Bj (Db Ap) (Ad "tasking") "lost") (Am (sIf (Bs cIs (A1 (Ad "tasking") "serve") (An .none)) (Am (C4 (An (.bool false))) Aq) Aq) Ez)))
theorem Zc:Cs 0 ⟨fS (Ba 80),[],[],[]⟩ (fB (Ba 80)) Lv:=(Ab (Bf (Ao Aa)) (Ab (As (B9 Ai) Aa) (Ab (Bn (A5 (Ao Aa) A2 @P6 rfl) (Ab (Bq B4) Aj) Aj) C6)))
noncomputable def H8:Fd:=C0 ["tasking"] Lv
theorem Aai:Be 1 527 H8:=Bh Zc (fun J=>⟨_,_,_,_,_,_,rfl,by kernel_rfl⟩) (by kernel_rfl) (bd1 fun J J J J J J J=>rfl)
noncomputable def Gj:SD:=(Am (Bw (Ed "list" Ck (Sm .scell) (Af (Fv K5 (Bg (Sm .wcell) (Fv K5 (Az F7 (Af (Sm .scell) Ap)) (Az F7 (Af (Sm .wcell) Ap)))) (Az F7 (Af (Ad "ready") Ap))) Ap))) (Am (C4 (Bg (Ad "ready") (Bg (Sm .scell) (Aht (An (.int 1)))))) Aq))
theorem Af4 {k:Nat}:Cs k Akw (fB chSt) Gj:=(Ab (Bc (D9 PySem.F.plainAttrs_list PySem.F.slot_list_append PySem.F.type_list_append @Ex (Mh (by kernel_rfl) rfl) (Ag (Ec (A6 (Mh (by kernel_rfl) rfl) (Ec (I7 (by kernel_rfl) I1 Ef.1 Ef.2 @Io (Ag (Mh (by kernel_rfl) rfl) Ai)) (I7 (by kernel_rfl) I1 Ef.1 Ef.2 @Io (Ag (Mh (by kernel_rfl) rfl) Ai)) @Oo)) (I7 (by kernel_rfl) I1 Ef.1 Ef.2 @Io (Ag Aa Ai)) @Oo) Ai))) (Ab (Bq (A6 Aa (A6 (Mh (by kernel_rfl) rfl) (Aa6 A9)))) Aj))
noncomputable def I3:SD:=(Am (Bb "chosen" (Ta Gj (Ad "tasking") (Ad "ready"))) (Am (Ey (Ad "ready") (B3 "task") (Am (sIf (Bs cEq (A1 (Ad "task") "number") (A1 (Ad "chosen") "number")) (Am (C4 (Ad "task")) Aq) Aq) Aq) 1000) Ez))
theorem Tr:Cs 1 ⟨fS (Ba 81),[],[],[]⟩ (fB (Ba 81)) I3:=(Ab (Bf (Aa5 Af4 Aa Aa (fun P=>by kernel_rfl) (fun P=>by kernel_rfl) (fun P=>by kernel_rfl))) (Ab (Da 1000 Aa Bt rfl (Ab (Bn (A5 (Ao Aa) (Ao Aa) @Du rfl) (Ab (Bq Aa) Aj) Aj) Aj)) C6))
noncomputable def Gn:Fd:=C0 ["tasking", "ready"] I3
theorem Uz:Be 2 534 Gn:=Bh Tr (fun J=>⟨_,_,_,_,_,_,rfl,by kernel_rfl⟩) (by kernel_rfl) (bd2 fun J J J J J J J J=>rfl)
noncomputable def Nf:SD:=(Am (D5 (Cz (An (.bool true))) (Am (Bw (Az Dq (Af (Ad "tasking") Ap))) (Am (D5 (bOr (Cz (Az K7 (Af (Ad "tasking") Ap))) (bOr (Cz (Az H8 (Af (Ad "tasking") Ap))) (Cp false))) (Am (Bw (Az Dq (Af (Ad "tasking") Ap))) Aq) 1000) (Am (Bb "ready" (Az G9 (Af (Ad "tasking") Ap))) (Am (sIf (Cz (Ad "ready")) (Am (C4 (Az Gn (Af (Ad "tasking") (Af (Ad "ready") Ap)))) Aq) Aq) (Am (sIf (Bs cEq (Az F2 (Af (Ad "tasking") Ap)) (Db Ap)) (Am (C4 (An .none)) Aq) Aq) (Am (Bw (Az Jc (Af (Ad "tasking") Ap))) Aq)))))) 1000) Aq)
theorem Abg:Cs 47 ⟨fS (Ba 82),[],[],[]⟩ (fB (Ba 82)) Nf:=(Ab (Gz 1000 (Bx B4) (Ab (Bc (A0 (by kernel_rfl) L5 (Be.le M1 (by omega)) L7 (Ag Aa Ai))) (Ab (Gz 1000 (Cd (Ek (Bx (A0 (by kernel_rfl) Abx (Be.le Adu (by omega)) Ab1 (Ag Aa Ai))) (Ek (Bx (A0 (by kernel_rfl) Wn (Be.le Aai (by omega)) W0 (Ag Aa Ai))) Fe))) (Ab (Bc (A0 (by kernel_rfl) L5 (Be.le M1 (by omega)) L7 (Ag Aa Ai))) Aj)) (Ab (Bf (A0 (by kernel_rfl) Ug (Be.le Xc (by omega)) Uv (Ag Aa Ai))) (Ab (Bn (Bx Aa) (Ab (Bq (A0 (by kernel_rfl) Sn (Be.le Uz (by omega)) So (Ag Aa (Ag Aa Ai)))) Aj) Aj) (Ab (Bn (A5 (A0 (by kernel_rfl) Q3 (Be.le Ss (by omega)) Q6 (Ag Aa Ai)) (B9 Ai) @Du rfl) (Ab (Bq A2) Aj) Aj) (Ab (Bc (A0 (by kernel_rfl) Zt (Be.le Acf (by omega)) Z3 (Ag Aa Ai))) Aj))))))) Aj)
noncomputable def Cg:Fd:=C0 ["tasking"] Nf
theorem R3:Be 48 541 Cg:=Bh Abg (fun J=>⟨_,_,_,_,_,_,rfl,by kernel_rfl⟩) (by kernel_rfl) (bd1 fun J J J J J J J=>rfl)
noncomputable def Ot:SD:=(Am (C4 (Fv K5 (dIf (Bs (K2 fun a b=>decide (a < b)) (Ad "spot") (Az F7 (Af (Ad "script") Ap))) (Bg (Ad "script") (Ad "spot")) (Bg (An (.tup [.int 0,.int 6,.int 1,.int 1,.int 1])) (Ad "spot"))) (Ad "sides"))) Aq)
theorem Adf:Cs 0 ⟨fS (Ba 86),[],[],[]⟩ (fB (Ba 86)) Ot:=(Ab (Bq (Ec (K1 (A5 Aa (I7 (by kernel_rfl) I1 Ef.1 Ef.2 @Io (Ag Aa Ai)) @Afb rfl) (A6 Aa Aa) (A6 (Ac4 (by kernel_rfl) Ajm) Aa)) Aa @Oo)) Aj)
noncomputable def Eo:Fd:=C0 ["script", "spot", "sides"] Ot
theorem I0:Be 1 550 Eo:=Bh Adf (fun J=>⟨_,_,_,_,_,_,rfl,by kernel_rfl⟩) (by kernel_rfl) (bd3 fun J J J J J J J J J=>rfl)
noncomputable def Na:SD:=(Am (Bb "rows" (Eg (fun J J=>some .rows) Ap)) (Am (Bb "left" (Az Adj (Af (Az Ft (Af (Ad "first") (Af (Fv Pb (Ad "last") (An (.int 1))) Ap))) Ap))) (Am (D5 (Bs cNe (Ad "left") (Db Ap)) (Am (Bw (Ed "list" Ck (Ad "rows") (Af (Ad "left") Ap))) (Am (Bb "left" (C3 (Ad "left") (B3 "number") (Bs cNe (Fv K5 (Ad "number") (Bg (Ad "left") (An (.int 0)))) (An (.int 0))) (Ad "number") ["left"] 1000)) Aq)) 1000) (Am (C4 (Ad "rows")) Aq))))
theorem Abb:Cs 0 ⟨fS (Ba 87),["left"],[],[]⟩ (fB (Ba 87)) Na:=(Ab (Bf (Dz (nm:=(fun J J=>some .rows)) Ai)) (Ab (Gl (To (by kernel_rfl) Afa S3.1 S3.2 @Aho (Ag (To (by kernel_rfl) M4 Fu.1 Fu.2 @Ml (Ag Aa (Ag (Ec Aa A9 @Li) Ai))) Ai)) (by kernel_rfl)) (Ab (Gz 1000 (A5 (Cy (by kernel_rfl)) (B9 Ai) @Fs rfl) (Ab (Bc (D9 PySem.F.plainAttrs_list PySem.F.slot_list_append PySem.F.type_list_append @Ex Aa (Ag (Cy (by kernel_rfl)) Ai))) (Ab (Qp (Dy (own:=none) (fr:=["left"]) (by decide) (C9 (by kernel_rfl)) (Cy (by kernel_rfl)) Bt rfl (D0 (A5 (Ec Aa (A6 (Cy (by kernel_rfl)) A9) @Oo) A9 @Fs rfl)) Aa) (by kernel_rfl)) Aj))) (Ab (Bq Aa) Aj))))
noncomputable def Ja:Fd:=C0 ["first", "last"] Na
theorem Acc:Be 1 555 Ja:=Mi Abb (fun J=>⟨_,_,_,_,_,_,rfl,by kernel_rfl⟩) (by kernel_rfl) (bd2 fun J J J J J J J J=>rfl)
noncomputable def J4:SD:=(Am (C4 (C3 (Ad "got") (B3 "number") (Bs cNe (Fv K5 (Ad "number") (Bg (Ad "got") (An (.int 0)))) (An (.int 0))) (Ad "number") ["got"] 1000)) Aq)
theorem V8:Cs 0 ⟨fS (Ba 88),["got"],[],[]⟩ (fB (Ba 88)) J4:=(Ab (Bq (Dy (own:=none) (fr:=["got"]) (by decide) (C9 (by kernel_rfl)) (Cy (by kernel_rfl)) Bt rfl (D0 (A5 (Ec Aa (A6 (Cy (by kernel_rfl)) A9) @Oo) A9 @Fs rfl)) Aa)) Aj)
noncomputable def G8:Fd:=C0 ["got"] J4
theorem W8:Be 1 560 G8:=Mi V8 (fun J=>⟨_,_,_,_,_,_,rfl,by kernel_rfl⟩) (by kernel_rfl) (bd1 fun J J J J J J J=>rfl)
noncomputable def Lr:SD:=(Am (Bb "ahead" (Bg (Ad "mill") (An (.str "told")))) (Am (Ey (Az Ft (Af (Az F7 (Af (Bg (Ad "mill") (An (.str "stages"))) Ap)) Ap)) (B3 "spot") (Am (Bb "got" (Bg (Bg (Bg (Ad "mill") (An (.str "stages"))) (Ad "spot")) (An (.str "got")))) (Am (sIf (bOr (Bs (K2 fun a b=>decide (a ≥ b)) (Ad "spot") (Az F7 (Af (Bg (Ad "mill") (An (.str "truth"))) Ap))) (bOr (Bs cNe (Ad "got") (Aez (Bg (Bg (Ad "mill") (An (.str "truth"))) (Ad "spot")) (Az F7 (Af (Ad "got") Ap)))) (Cp false))) (Am (C4 (An (.bool false))) Aq) Aq) (Am (sIf (Bs Ty (Fv Agg (Az F7 (Af (Ad "ahead") Ap)) (Az F7 (Af (Ad "got") Ap))) (Mg (Af (An (.int 0)) (Af (An (.int 1)) Ap)))) (Am (C4 (An (.bool false))) Aq) Aq) (Am (Bb "ahead" (Az G8 (Af (Ad "got") Ap))) Aq)))) 1000) (Am (C4 (Kf (K2 fun a b=>decide (a < b)) (Az F7 (Af (Ad "ahead") Ap)) (An (.int 2)))) Aq)))
theorem Y7:Cs 1 ⟨fS (Ba 89),[],[],[]⟩ (fB (Ba 89)) Lr:=(Ab (Bf (A6 Aa A3)) (Ab (Da 1000 (To (by kernel_rfl) M4 Fu.1 Fu.2 @Ml (Ag (I7 (by kernel_rfl) I1 Ef.1 Ef.2 @Io (Ag (A6 Aa A3) Ai)) Ai)) Bt rfl (Ab (Bf (A6 (A6 (A6 Aa A3) Aa) A3)) (Ab (Bn (Cd (Ek (A5 Aa (I7 (by kernel_rfl) I1 Ef.1 Ef.2 @Io (Ag (A6 Aa A3) Ai)) @Amv rfl) (Ek (A5 Aa (Afx (A6 (A6 Aa A3) Aa) (I7 (by kernel_rfl) I1 Ef.1 Ef.2 @Io (Ag Aa Ai))) @Fs rfl) Fe))) (Ab (Bq B4) Aj) Aj) (Ab (Bn (A5 (Ec (I7 (by kernel_rfl) I1 Ef.1 Ef.2 @Io (Ag Aa Ai)) (I7 (by kernel_rfl) I1 Ef.1 Ef.2 @Io (Ag Aa Ai)) @Aam) (E6 (Ag A9 (Ag A9 Ai))) @Ack rfl) (Ab (Bq B4) Aj) Aj) (Ab (Bf (A0 (by kernel_rfl) Uc (Be.le W8 (by omega)) Ur (Ag Aa Ai))) Aj))))) (Ab (Bq (Ej (I7 (by kernel_rfl) I1 Ef.1 Ef.2 @Io (Ag Aa Ai)) A9 @Afb rfl)) Aj)))
noncomputable def Fm:Fd:=C0 ["mill"] Lr
theorem Aad:Be 2 567 Fm:=Bh Y7 (fun J=>⟨_,_,_,_,_,_,rfl,by kernel_rfl⟩) (by kernel_rfl) (bd1 fun J J J J J J J=>rfl)
noncomputable def Er:SD:=(Am (Bb "master" (A1 (Bg (Ad "mill") (An (.str "tasking"))) "library")) (Am (sIf (Cz (Bg (Ad "mill") (An (.str "is_nested")))) (Am (Bb "master" (Az Jw (Af (Bg (Ad "mill") (An (.str "tasking"))) (Af (Ad "task") Ap)))) Aq) Aq) (Am (Fy (Az Gb (Af (Bg (Ad "mill") (An (.str "tasking"))) (Af (An (.str "stage")) (Af (Ad "master") (Af (An (.int 1)) Ap))))) (Ad "stage") (An (.str "next"))) (Am (Bw (Ed "list" Ck (Bg (Ad "mill") (An (.str "stages"))) (Af (Ir (Hb .stage) (Ct "got" (Eg (Hb .got) Ap) (Ct "next" (An .none) (Ct "hand" (An .none) (Ct "does" (An (.str "begin")) N9))))) Ap))) (Am (Bw (Ed "list" Ck (Bg (Ad "mill") (An (.str "crew"))) (Af (A1 (Bg (Ad "stage") (An (.str "next"))) "number") Ap))) (Am (Bw (Az D1 (Af (dIf (Cz (Bg (Ad "mill") (An (.str "has_patience")))) (Ad "task") (An .none)) (Af (Db (Af (Bg (Ad "stage") (An (.str "next"))) Ap)) Ap)))) (Am (C4 (Bg (Ad "mill") (An (.str "has_patience")))) Aq)))))))
theorem Ade:Cs 3 ⟨fS (Ba 90),[],[],[]⟩ (fB (Ba 90)) Er:=(Ab (Bf (Ao (A6 Aa A3))) (Ab (Bn (Bx (A6 Aa A3)) (Ab (Bf (A0 (by kernel_rfl) Ue (Be.le Xa (by omega)) Ut (Ag (A6 Aa A3) (Ag Aa Ai)))) Aj) Aj) (Ab (Ei (A0 (by kernel_rfl) Pk (Be.le R2 (by omega)) Pv (Ag (A6 Aa A3) (Ag A3 (Ag Aa (Ag A9 Ai))))) Aa A3) (Ab (Bc (D9 PySem.F.plainAttrs_list PySem.F.slot_list_append PySem.F.type_list_append @Ex (A6 Aa A3) (by refine Aa8 ?_; exact (by refine Oe ?_ ?_ ?_; exact (Dl (Dz (nm:=(Hb .got)) Ai) (Dl A2 (Dl A2 (Dl A3 Qo)))); simp; simp)) (hst:=Aci))) (Ab (Bc (D9 PySem.F.plainAttrs_list PySem.F.slot_list_append PySem.F.type_list_append @Ex (A6 Aa A3) (Ag (Ao (A6 Aa A3)) Ai))) (Ab (Bc (A0 (by kernel_rfl) Jf (Be.le Kq (by omega)) Ji (Ag (K1 (Bx (A6 Aa A3)) Aa A2) (Ag (B9 (Ag (A6 Aa A3) Ai)) Ai)))) (Ab (Bq (A6 Aa A3)) Aj)))))))
noncomputable def En:Fd:=C0 ["mill", "task", "stage"] Er
theorem Adv:Be 4 574 En:=Bh Ade (fun J=>⟨_,_,_,_,_,_,rfl,by kernel_rfl⟩) (by kernel_rfl) (bd3 fun J J J J J J J J J=>rfl)
noncomputable def Ci:SD:=(Am (sIf (Dg (Bs cIs (Bg (Ad "stage") (An (.str "next"))) (An .none)) (Dg (Cz (Az En (Af (Ad "mill") (Af (Ad "task") (Af (Ad "stage") Ap))))) (Cp true))) (Am (C4 (An .none)) Aq) Aq) (Am (Fy (An (.str "send")) (Ad "stage") (An (.str "does"))) (Am (Bw (Az H3 (Af (Bg (Ad "mill") (An (.str "tasking"))) (Af (Ad "task") (Af (Bg (Ad "stage") (An (.str "next"))) (Af (An (.base 542)) (Af (Db (Af (Bg (Ad "stage") (An (.str "hand"))) Ap)) (Af (An .none) Ap)))))))) Aq)))
theorem Tt:Cs 4 ⟨fS (Ba 91),[],[],[]⟩ (fB (Ba 91)) Ci:=(Ab (Bn (Cd (Bz (A5 (A6 Aa A3) A2 @P6 rfl) (Bz (Bx (A0 (by kernel_rfl) Aby (Be.le Adv (by omega)) Ab2 (Ag Aa (Ag Aa (Ag Aa Ai))))) Co))) (Ab Et Aj) Aj) (Ab (Ei A3 Aa A3) (Ab (Bc (A0 (by kernel_rfl) We (Be.le Z9 (by omega)) Wq (Ag (A6 Aa A3) (Ag Aa (Ag (A6 Aa A3) (Ag (Bl (by kernel_rfl) Ae4) (Ag (B9 (Ag (A6 Aa A3) Ai)) (Ag A2 Ai)))))))) Aj)))
noncomputable def Bp:Fd:=C0 ["mill", "task", "stage"] Ci
theorem Iz:Be 5 581 Bp:=Bh Tt (fun J=>⟨_,_,_,_,_,_,rfl,by kernel_rfl⟩) (by kernel_rfl) (bd3 fun J J J J J J J J J=>rfl)
noncomputable def D7:SD:=(Am (sIf (Bs cEq (Bg (Ad "source") (An (.str "does"))) (An (.str "send"))) (Am (Fy (An .none) (Ad "source") (An (.str "hand"))) Aq) Aq) (Am (sIf (Dg (Bs cIs (Bg (Ad "source") (An (.str "hand"))) (An .none)) (Dg (Bs cEq (Bg (Ad "source") (An (.str "left"))) (Db Ap)) (Cp true))) (Am (Bw (Az C7 (Af (Ad "task") Ap))) (Am (C4 (An .none)) Aq)) Aq) (Am (sIf (Bs cIs (Bg (Ad "source") (An (.str "hand"))) (An .none)) (Am (Fy (Ed "list" Adt (Bg (Ad "source") (An (.str "left"))) (Af (An (.int 0)) Ap)) (Ad "source") (An (.str "hand"))) (Am (Bw (Ed "list" Ck (Bg (Ad "mill") (An (.str "told"))) (Af (Bg (Ad "source") (An (.str "hand"))) Ap))) Aq)) Aq) (Am (Bw (Az Bp (Af (Ad "mill") (Af (Ad "task") (Af (Ad "source") Ap))))) Aq))))
theorem O0:Cs 5 ⟨fS (Ba 92),[],[],[]⟩ (fB (Ba 92)) D7:=(Ab (Bn (A5 (A6 Aa A3) A3 @Du rfl) (Ab (Ei A2 Aa A3) Aj) Aj) (Ab (Bn (Cd (Bz (A5 (A6 Aa A3) A2 @P6 rfl) (Bz (A5 (A6 Aa A3) (B9 Ai) @Du rfl) Co))) (Ab (Bc (A0 (by kernel_rfl) Kl (Be.le L9 (by omega)) Kp (Ag Aa Ai))) (Ab Et Aj)) Aj) (Ab (Bn (A5 (A6 Aa A3) A2 @P6 rfl) (Ab (Ei (D9 PySem.F.plainAttrs_list PySem.F.slot_list_pop PySem.F.type_list_pop @Ait (A6 Aa A3) (Ag A9 Ai)) Aa A3) (Ab (Bc (D9 PySem.F.plainAttrs_list PySem.F.slot_list_append PySem.F.type_list_append @Ex (A6 Aa A3) (Ag (A6 Aa A3) Ai))) Aj)) Aj) (Ab (Bc (A0 (by kernel_rfl) Hs (Be.le Iz (by omega)) Ht (Ag Aa (Ag Aa (Ag Aa Ai))))) Aj))))
noncomputable def Dd:Fd:=C0 ["mill", "task", "source"] D7
theorem Pz:Be 6 588 Dd:=Bh O0 (fun J=>⟨_,_,_,_,_,_,rfl,by kernel_rfl⟩) (by kernel_rfl) (bd3 fun J J J J J J J J J=>rfl)
noncomputable def Dh:SD:=(Am (Bb "stage" (Bg (Bg (Ad "mill") (An (.str "stages"))) (Ad "spot"))) (Am (sIf (Bs cEq (Bg (Ad "stage") (An (.str "does"))) (An (.str "begin"))) (Am (Bw (Az Ea (Af (Ad "task") (Af (An (.bool false)) Ap)))) Aq) (Am (sIf (Bs cEq (Bg (Ad "stage") (An (.str "does"))) (An (.str "wait"))) (Am (Bb "number" (Bg (A1 (Bg (A1 (Ad "task") "answer") (An (.int 2))) "values") (An (.int 0)))) (Am (Bw (Ed "list" Ck (Bg (Ad "stage") (An (.str "got"))) (Af (Ad "number") Ap))) (Am (Bw (Az G7 (Af (Ad "task") (Af (An .none) Ap)))) (Am (sIf (Bs cNe (Fv K5 (Ad "number") (Bg (Bg (Ad "stage") (An (.str "got"))) (An (.int 0)))) (An (.int 0))) (Am (Fy (Ad "number") (Ad "stage") (An (.str "hand"))) (Am (Fy (An (.str "make")) (Ad "stage") (An (.str "does"))) (Am (sIf (Bs cEq (Bg (Ad "mill") (An (.str "slow"))) (Ad "spot")) (Am (Afn Pb (Ad "mill") (An (.str "rests")) (An (.int 1))) (Am (Bw (Az K6 (Af (Bg (Ad "mill") (An (.str "tasking"))) (Af (Ad "task") (Af (An (.int 1)) Ap))))) Aq)) (Am (Bw (Az Bp (Af (Ad "mill") (Af (Ad "task") (Af (Ad "stage") Ap))))) Aq)) (Am (C4 (An .none)) Aq)))) Aq) Aq)))) (Am (sIf (Bs cEq (Bg (Ad "stage") (An (.str "does"))) (An (.str "make"))) (Am (Bw (Az Bp (Af (Ad "mill") (Af (Ad "task") (Af (Ad "stage") Ap))))) (Am (C4 (An .none)) Aq)) Aq) Aq)) Aq)) (Am (Fy (An (.str "wait")) (Ad "stage") (An (.str "does"))) (Am (Fy (An .none) (Ad "stage") (An (.str "hand"))) (Am (Bw (Az Dk (Af (Bg (Ad "mill") (An (.str "tasking"))) (Af (Ad "task") (Af (Db (Af (Mg (Af (An (.int 0)) (Af (An (.str "accept")) (Af (An (.base 542)) Ap)))) (Af (Mg (Af (An (.int 1)) (Af (An (.str "terminate")) (Af (An .none) Ap)))) Ap))) (Af (An (.bool false)) Ap)))))) Aq)))))
theorem Qu:Cs 5 ⟨fS (Ba 93),[],[],[]⟩ (fB (Ba 93)) Dh:=(Ab (Bf (A6 (A6 Aa A3) Aa)) (Ab (Bn (A5 (A6 Aa A3) A3 @Du rfl) (Ab (Bc (A0 (by kernel_rfl) Jg (Be.le Kr (by omega)) Jj (Ag Aa (Ag B4 Ai)))) Aj) (Ab (Bn (A5 (A6 Aa A3) A3 @Du rfl) (Ab (Bf (A6 (Ao (A6 (Ao Aa) A9)) A9)) (Ab (Bc (D9 PySem.F.plainAttrs_list PySem.F.slot_list_append PySem.F.type_list_append @Ex (A6 Aa A3) (Ag Aa Ai))) (Ab (Bc (A0 (by kernel_rfl) T9 (Be.le W5 (by omega)) Uo (Ag Aa (Ag A2 Ai)))) (Ab (Bn (A5 (Ec Aa (A6 (A6 Aa A3) A9) @Oo) A9 @Fs rfl) (Ab (Ei Aa Aa A3) (Ab (Ei A3 Aa A3) (Ab (Bn (A5 (A6 Aa A3) Aa @Du rfl) (Ab (Af0 Aa A3 A9 @Li) (Ab (Bc (A0 (by kernel_rfl) Wf (Be.le Aaa (by omega)) Wr (Ag (A6 Aa A3) (Ag Aa (Ag A9 Ai))))) Aj)) (Ab (Bc (A0 (by kernel_rfl) Hs (Be.le Iz (by omega)) Ht (Ag Aa (Ag Aa (Ag Aa Ai))))) Aj)) (Ab Et Aj)))) Aj) Aj)))) (Ab (Bn (A5 (A6 Aa A3) A3 @Du rfl) (Ab (Bc (A0 (by kernel_rfl) Hs (Be.le Iz (by omega)) Ht (Ag Aa (Ag Aa (Ag Aa Ai))))) (Ab Et Aj)) Aj) Aj)) Aj)) (Ab (Ei A3 Aa A3) (Ab (Ei A2 Aa A3) (Ab (Bc (A0 (by kernel_rfl) Uf (Be.le Xb (by omega)) Uu (Ag (A6 Aa A3) (Ag Aa (Ag (B9 (Ag (E6 (Ag A9 (Ag A3 (Ag (Bl (by kernel_rfl) Ae4) Ai)))) (Ag (E6 (Ag A9 (Ag A3 (Ag A2 Ai)))) Ai))) (Ag B4 Ai)))))) Aj)))))
noncomputable def C1:Fd:=C0 ["mill", "task", "spot"] Dh
theorem Rc:Be 6 595 C1:=Bh Qu (fun J=>⟨_,_,_,_,_,_,rfl,by kernel_rfl⟩) (by kernel_rfl) (bd3 fun J J J J J J J J J=>rfl)
end
noncomputable abbrev fiA:Fi:=⟨fS (Ba 94),["first", "steps", "wishes"],[],[]⟩
noncomputable abbrev fiB:Fi:=⟨fS (Ba 94),["first"],[],[]⟩
theorem Agm:Cm "Limits" (.base 468):=fun P=>⟨_,rfl,fun ρ h=>rfl⟩
theorem Agt (P:Params):keepIn (K0 P) (.ref 468)=true:=by kernel_rfl
theorem Ado:Cm "Tasking" (.base 496):=fun P=>⟨_,rfl,fun ρ h=>rfl⟩
theorem Adr (P:Params):keepIn (K0 P) (.ref 496)=true:=by kernel_rfl
theorem T8:Cm "end_library" (.base 388):=fun P=>⟨_,rfl,fun ρ h=>rfl⟩
theorem Un (P:Params):keepIn (K0 P) (.ref 388)=true:=by kernel_rfl
theorem Wi:Cm "_law_is_row" (.base 567):=fun P=>⟨_,rfl,fun ρ h=>rfl⟩
theorem Wv (P:Params):keepIn (K0 P) (.ref 567)=true:=by kernel_rfl
theorem Oh:Cm "_law_source_goes" (.base 588):=fun P=>⟨_,rfl,fun ρ h=>rfl⟩
theorem Ok (P:Params):keepIn (K0 P) (.ref 588)=true:=by kernel_rfl
theorem Pj:Cm "_law_stage_goes" (.base 595):=fun P=>⟨_,rfl,fun ρ h=>rfl⟩
theorem Pu (P:Params):keepIn (K0 P) (.ref 595)=true:=by kernel_rfl
theorem Hk:Cm "_law_told" (.base 550):=fun P=>⟨_,rfl,fun ρ h=>rfl⟩
theorem Hm (P:Params):keepIn (K0 P) (.ref 550)=true:=by kernel_rfl
theorem Zq:Cm "_law_truth" (.base 555):=fun P=>⟨_,rfl,fun ρ h=>rfl⟩
theorem Z0 (P:Params):keepIn (K0 P) (.ref 555)=true:=by kernel_rfl
theorem Pm:Cm "pick_task" (.base 541):=fun P=>⟨_,rfl,fun ρ h=>rfl⟩
theorem Pw (P:Params):keepIn (K0 P) (.ref 541)=true:=by kernel_rfl
noncomputable def Vd:SD:=(Am (Bb "first" (Fv Pb (An (.int 2)) (Az Eo (Af (Ad "script") (Af (An (.int 0)) (Af (An (.int 3)) Ap)))))) (Am (Bb "last" (Fv Agg (Fv Agg (An (.int 14)) (Ad "first")) (Az Eo (Af (Ad "script") (Af (An (.int 1)) (Af (An (.int 7)) Ap)))))) (Am (Bb "wishes" (dOr (Aey (Ad "script") (An (.int 5))) (Db (Af (An (.int 0)) (Af (An (.int 1)) Ap))))) (Am (Bb "steps" (Eg (fun J J=>some .steps) Ap)) Aq))))
theorem Ane:Cs 48 fiA ((fB (Ba 94)).take 4) Vd:=by
 have h:fB (Ba 94)=fB (Ba 94):=rfl
 conv at h=>lhs; whnf
 rw [← h]
 exact (Ab (Gl (Ec A9 (A0 (by kernel_rfl) Hk (Be.le I0 (by lia)) Hm (Ag Aa (Ag A9 (Ag A9 Ai)))) @Li) (by kernel_rfl)) (Ab (Bf (Ec (Ec A9 (Cy (by kernel_rfl)) @Aam) (A0 (by kernel_rfl) Hk (Be.le I0 (by lia)) Hm (Ag Aa (Ag A9 (Ag A9 Ai)))) @Aam)) (Ab (Gl (Gy (Aeu (Afv Aa A9) (Kc (B9 (Ag A9 (Ag A9 Ai)))))) (by kernel_rfl)) (Ab (Gl (Dz (nm:=(fun J J=>some .steps)) Ai) (by kernel_rfl)) Aj))))
noncomputable def Ve:SD:=(Am (Bb "tasking" (Az Nj (Af (fun _ σ=>Pd [] σ) (Af (Ad "chooser") Ap)))) (Am (Bb "mill" (Ir (fun J J=>some .mill) (Ct "tasking" (Ad "tasking") (Ct "truth" (Az Ja (Af (Ad "first") (Af (Ad "last") Ap))) (Ct "stages" (Eg (fun J J=>some .stages) Ap) (Ct "crew" (Eg (fun J J=>some .crew) Ap) (Ct "told" (Eg (fun J J=>some .told) Ap) (Ct "rests" (An (.int 0)) N9)))))))) (Am (Fy (Kf cEq (Az Eo (Af (Ad "script") (Af (An (.int 2)) (Af (An (.int 2)) Ap)))) (An (.int 1))) (Ad "mill") (An (.str "is_nested"))) (Am (Fy (Kf cEq (Az Eo (Af (Ad "script") (Af (An (.int 3)) (Af (An (.int 2)) Ap)))) (An (.int 1))) (Ad "mill") (An (.str "has_patience"))) (Am (Fy (Az Eo (Af (Ad "script") (Af (An (.int 4)) (Af (An (.int 4)) Ap)))) (Ad "mill") (An (.str "slow"))) (Am (Bb "source" (Ir (fun J J=>some .source) (Ct "left" (Az (Nk fun J=>some .left) (Af (Az Ft (Af (Ad "first") (Af (Fv Pb (Ad "last") (An (.int 1))) Ap))) Ap)) (Ct "next" (An .none) (Ct "hand" (An .none) (Ct "does" (An (.str "make")) N9)))))) (Am (Bb "feeder" (Az Gb (Af (Ad "tasking") (Af (An (.str "source")) (Af (A1 (Ad "tasking") "library") (Af (An (.int 1)) Ap)))))) (Am (Bw (Az D1 (Af (An .none) (Af (Db (Af (Ad "feeder") Ap)) Ap)))) (Am (Bw (Az G6 (Af (Ad "tasking") Ap))) (Am (Am (Bb "task" (Az Cg (Af (Ad "tasking") Ap))) (Am (D5 (Bs Ff (Ad "task") (An .none)) (Am (sIf (Bs Ff (A1 (Ad "task") "raised") (An .none)) (Am (C4 (An (.bool false))) Aq) Aq) (Am (sIf (Bs cEq (A1 (Ad "task") "number") (A1 (Ad "feeder") "number")) (Am (Bw (Az Dd (Af (Ad "mill") (Af (Ad "task") (Af (Ad "source") Ap))))) Aq) (Am (Bw (Az C1 (Af (Ad "mill") (Af (Ad "task") (Af (Ed "list" Q9 (Bg (Ad "mill") (An (.str "crew"))) (Af (A1 (Ad "task") "number") Ap)) Ap))))) Aq)) (Am (sIf (Gk (Cz (Az Fm (Af (Ad "mill") Ap)))) (Am (C4 (An (.bool false))) Aq) Aq) (Am (Bb "task" (Az Cg (Af (Ad "tasking") Ap))) Aq)))) 1000) Aq)) (Am (sIf (bOr (Bs cNe (C3 (Bg (Ad "mill") (An (.str "stages"))) (B3 "stage") (Cp true) (Bg (Ad "stage") (An (.str "got"))) [] 1000) (Bg (Ad "mill") (An (.str "truth")))) (bOr (Bs cNe (A1 (A1 (Ad "tasking") "clock") "now") (Bg (Ad "mill") (An (.str "rests")))) (Cp false))) (Am (C4 (An (.bool false))) Aq) Aq) (Am (Bb "keepers" (C3 (Bg (Ad "mill") (An (.str "stages"))) (B3 "stage") (Cp true) (Bg (Bg (Ad "stage") (An (.str "got"))) (An (.int 0))) [] 1000)) (Am (C4 (Kf cEq (Ad "keepers") (C3 (Az Ft (Af (Ad "first") (Af (Fv Pb (Ad "last") (An (.int 1))) Ap))) (B3 "n") (Bs cEq (C3 (Az Ft (Af (Ad "first") (Af (Ad "n") Ap))) (B3 "d") (Bs cEq (Fv K5 (Ad "n") (Ad "d")) (An (.int 0))) (Ad "d") ["n"] 1000) (Db Ap)) (Ad "n") ["first"] 1000))) Aq)))))))))))))
theorem Anf:Cs 48 fiB ((fB (Ba 94)).drop 5) Ve:=by
 have h:fB (Ba 94)=fB (Ba 94):=rfl
 conv at h=>lhs; whnf
 rw [← h]
 exact (Ab (Bf (A0 (by kernel_rfl) Ado (Be.le Agx (by lia)) Adr (Ag (Rq (by kernel_rfl) Agm (Be.le Aih (by lia)) Agt) (Ag Aa Ai)))) (Ab (Bf (by refine Oe ?_ ?_ ?_; exact (Dl Aa (Dl (A0 (by kernel_rfl) Zq (Be.le Acc (by lia)) Z0 (Ag (Cy (by kernel_rfl)) (Ag Aa Ai))) (Dl (Dz (nm:=(fun J J=>some .stages)) Ai) (Dl (Dz (nm:=(fun J J=>some .crew)) Ai) (Dl (Dz (nm:=(fun J J=>some .told)) Ai) (Dl A9 Qo)))))); simp; simp)) (Ab (Ei (Ej (A0 (by kernel_rfl) Hk (Be.le I0 (by lia)) Hm (Ag Aa (Ag A9 (Ag A9 Ai)))) A9 @Du rfl) Aa A3) (Ab (Ei (Ej (A0 (by kernel_rfl) Hk (Be.le I0 (by lia)) Hm (Ag Aa (Ag A9 (Ag A9 Ai)))) A9 @Du rfl) Aa A3) (Ab (Ei (A0 (by kernel_rfl) Hk (Be.le I0 (by lia)) Hm (Ag Aa (Ag A9 (Ag A9 Ai)))) Aa A3) (Ab (Bf (by refine Oe ?_ ?_ ?_; exact (Dl (To (by kernel_rfl) Afa S3.1 S3.2 (Af6 (nm:=fun J=>some .left)) (Ag (To (by kernel_rfl) M4 Fu.1 Fu.2 @Ml (Ag (Cy (by kernel_rfl)) (Ag (Ec Aa A9 @Li) Ai))) Ai)) (Dl A2 (Dl A2 (Dl A3 Qo)))); simp; simp)) (Ab (Bf (A0 (by kernel_rfl) Pk (Be.le R2 (by lia)) Pv (Ag Aa (Ag A3 (Ag (Ao Aa) (Ag A9 Ai)))))) (Ab (Bc (A0 (by kernel_rfl) Jf (Be.le Kq (by lia)) Ji (Ag A2 (Ag (B9 (Ag Aa Ai)) Ai)))) (Ab (Bc (A0 (by kernel_rfl) T8 (Be.le W4 (by lia)) Un (Ag Aa Ai))) (Ab (Ahi (Ab (Bf (A0 (by kernel_rfl) Pm (Be.le R3 (by lia)) Pw (Ag Aa Ai))) (Ab (Gz 1000 (A5 Aa A2 @Fh rfl) (Ab (Bn (A5 (Ao Aa) A2 @Fh rfl) (Ab (Bq B4) Aj) Aj) (Ab (Bn (A5 (Ao Aa) (Ao Aa) @Du rfl) (Ab (Bc (A0 (by kernel_rfl) Oh (Be.le Pz (by lia)) Ok (Ag Aa (Ag Aa (Ag Aa Ai))))) Aj) (Ab (Bc (A0 (by kernel_rfl) Pj (Be.le Rc (by lia)) Pu (Ag Aa (Ag Aa (Ag (D9 PySem.F.plainAttrs_list PySem.F.slot_list_index PySem.F.type_list_index @Air (A6 Aa A3) (Ag (Ao Aa) Ai)) Ai))))) Aj)) (Ab (Bn (E5 (Bx (A0 (by kernel_rfl) Wi (Be.le Aad (by lia)) Wv (Ag Aa Ai)))) (Ab (Bq B4) Aj) Aj) (Ab (Bf (A0 (by kernel_rfl) Pm (Be.le R3 (by lia)) Pw (Ag Aa Ai))) Aj))))) Aj))) (Ab (Bn (Cd (Ek (A5 (Dy (own:=none) (fr:=[]) (by decide) (C9 (by kernel_rfl)) (A6 Aa A3) Bt rfl Ni (A6 Aa A3)) (A6 Aa A3) @Fs rfl) (Ek (A5 (Ao (Ao Aa)) (A6 Aa A3) @Fs rfl) Fe))) (Ab (Bq B4) Aj) Aj) (Ab (F0 (own:=none) (fr:=[]) (by decide) (C9 (by kernel_rfl)) (A6 Aa A3) Bt rfl Ni (A6 (A6 Aa A3) A9) (by kernel_rfl) (by kernel_rfl)) (Ab (Bq (Ej Aa (Dy (own:=(some "n")) (fr:=["first"]) (by decide) (C9 (by kernel_rfl)) (To (by kernel_rfl) M4 Fu.1 Fu.2 @Ml (Ag (Cy (by kernel_rfl)) (Ag (Ec Aa A9 @Li) Ai))) (Ac7 (by kernel_rfl)) rfl (D0 (A5 (Dy (own:=none) (fr:=["n"]) (by decide) (C9 (by kernel_rfl)) (To (by kernel_rfl) M4 Fu.1 Fu.2 @Ml (Ag (Cy (by kernel_rfl)) (Ag (Cy (by kernel_rfl)) Ai))) Bt rfl (D0 (A5 (Ec (Cy (by kernel_rfl)) Aa @Oo) A9 @Du rfl)) Aa) (B9 Ai) @Du rfl)) (Cy (by kernel_rfl))) @Du rfl)) Aj)))))))))))))
theorem Ahy {c:Cx} {ρ:Pl} {σ:AS} {h h₁:Heap} {sc:Scope} {ps cs:List String} (hp:Plain sc ps cs) {avs:List AVal} {vs:List Value} (S₀:Sat c ρ σ h) (hr:Bm ρ h avs vs) (hvl:vs.length=ps.length) {env:Env} (e1:env.scope=sc) (e2:env.locals=h.objs.size) (e3:env.globals=mainGlobals) (e4:env.builtins=builtinsNs)
  (e5:env.cells=cellsFrom (h.objs.size + 1) sc.names []) {d d':Drawn} {tk tk':Tok} {os os':OsState} {g g':Array GenState} (x:InCallC ⟨h,g,d,tk,os⟩ env.locals (bindL env.kindOf ((ps.map sx).zip vs) fun J=>none) env.cells (bindC env.kindOf ((ps.map sx).zip vs) fun J=>none) ⟨h₁,g',d',tk',os'⟩) :
  St c ρ ⟨sc,cs,[],[]⟩ σ env (Dc ps avs) h₁:=by
 have kp:C5 h h₁:=x.toInCall.keep
 have hnd:(((ps.map sx).zip vs).map (·.1)).Nodup:=by
  rw [List.map_fst_zip (by rw [List.length_map,hvl]; exact Nat.le_refl _)]
  exact List.Pairwise.map sx (fun a b hab z=>hab (E4 z)) hp.nodup
 have ek:∀ y:Str,env.kindOf y=sc.names.lookup y:=fun y=>by show env.scope.names.lookup y=_; rw [e1]
 have dead:∀ b:Nat,h.objs.size≤b→h.get? b=none:=fun b hb=>Heap.get?_none_of_le hb
 have cellLt:∀ y b,env.cells.lookup y=some b→@LT.lt Nat _ h.objs.size b:=fun y b e=>by
  have:=x.above y b (mem_of_lookup e)
  rw [e2] at this; exact this
 refine ⟨S₀.keep kp,⟨_,x.toInCall.ns,fun y av' hy=>?_⟩,fun b hb=>?_,fun b hb=>?_,fun y hy=>?_,fun y i hy=>(by cases hy),⟨by rw [e1]; exact hp.kind,by rw [e1],e3,e4,fun y z b g1 g2=>?_,fun y b g=>?_⟩⟩
 ·obtain ⟨v,hm,hv⟩:=Tj hr hy
  have hyps:y∈ps:=by
   obtain ⟨z,hz,e⟩:=List.mem_map.mp (List.of_mem_zip hm).1
   exact E4 e ▸ hz
  refine ⟨v,hv.mono (Ext.refl _ _) (C5.old kp),?_⟩
  obtain ⟨b1,b2⟩:=O3 env.kindOf _ (fun J=>none) (fun J=>none) _ _ hnd hm
  rcases hp.par y hyps with ⟨g1,g2⟩ | ⟨g1,g2⟩
  ·exact .inl ⟨g2,by simp,b1 (by rw [ek]; exact g1)⟩
  ·obtain ⟨b,hb⟩:=Option.isSome_iff_exists.mp (hp.cell (h.objs.size + 1) y g2)
   rw [← e5] at hb
   refine .inr ⟨.inl g2,b,hb,?_⟩
   have:=x.cell _ _ hb
   rw [b2 (by rw [ek,g1]; intro z; cases z)] at this
   exact this
 ·rcases hb with rfl | ⟨y,hy,hb⟩
  ·obtain ⟨o,_,_,ho,_⟩:=x.toInCall.ns
   exact ⟨by rw [e2]; exact S₀.fresh_notMut (Cc h),by rw [e2]; exact S₀.big,o,ho⟩
  ·obtain ⟨o,ho,_⟩:=x.cell _ _ hb
   have:=cellLt _ _ hb
   have hbig:=S₀.big
   exact ⟨S₀.fresh_notMut (dead b (Nat.le_of_lt this)),by lia,o,ho⟩
 ·obtain ⟨y,hy,_⟩:=hb; cases hy
 ·obtain ⟨b,hb⟩:=Option.isSome_iff_exists.mp (hp.cell (h.objs.size + 1) y hy)
  rw [← e5] at hb
  exact ⟨b,_,hb,x.cell _ _ hb⟩
 ·exact name_of_addr x.apart (mem_of_lookup g1) (mem_of_lookup g2)
 ·have:=cellLt _ _ g
  rw [e2]; exact Nat.ne_of_gt this
set_option tactic.hygienic true in
theorem X7 (env:Env):∀ (a b:List Stmt),execs (a++b) env=(execs a env >>= fun f=>match f with | .next=>execs b env | f=>pure f)
 | [],b=>by
  show execs b env=_
  rw [show execs [] env=pure .next from rfl,pure_bind]
 | s :: a,b=>by
  rw [List.cons_append,execs_cons,execs_cons,bind_assoc]
  congr 1
  funext f
  cases f with
  | next=>exact X7 env a b
  | _=>rw [pure_bind]
set_option tactic.hygienic true in
theorem Sz {M:Model} {A:Around} {E:Value→Shared→Prop} {s:Shared} {env:Env} {a b:List Stmt} {Q:Flow→Shared→Prop}
  (h:wpAny M A (execs a env) (fun f s'=>match f with | .next=>wpAny M A (execs b env) Q E s' | f=>Q f s') E s):wpAny M A (execs (a++b) env) Q E s:=by
 rw [X7]
 refine wpAny_bind (wpAny_mono h (fun f s' h'=>?_) fun _ _ z=>z)
 cases f with
 | next=>exact h'
 | _=>exact wpAny_pure h'
mutual
theorem Ce.adopt {ρ ρ':Pl} {h h':Heap} (hp:∀ i p,ρ.pl i=some p→ρ'.pl i=some p) (hm:∀ (b:Nat) o,h.get? b=some o→Ul o→¬ρ.Mut b→¬ρ'.Mut b) (k:Fz ρ h h'):∀ {x:AVal} {v:Value},Ce ρ h x v→Ce ρ' h' x v
 | .none,_,r=>r
 | .bool _,_,r=>r
 | .int _,_,r=>r
 | .str _,_,r=>r
 | .id _,_,⟨p,e,hv⟩=>⟨p,hp _ _ e,hv⟩
 | .base _,_,r=>r
 | .tup _,_,⟨a,vs,hv,hn,ha,hr⟩=>⟨a,vs,hv,(let ⟨o,ho,_,n,hd⟩:=ha; hm _ o ho (.inl ⟨_,n,hd⟩) hn),k.tup ha hn,Bm.adopt hp hm k hr⟩
 | .flist _,_,⟨a,vs,hv,hn,ha,hl,hr⟩=>⟨a,vs,hv,(let ⟨o,ho,_,n,hd⟩:=ha; hm _ o ho (.inl ⟨_,n,hd⟩) hn),k.list ha hn,hl,Bm.adopt hp hm k hr⟩
 | .rng _ _,_,⟨a,t,u,w,hv,hn,ha,hb⟩=>⟨a,t,u,w,hv,hm _ _ ha (.inr ⟨rfl,_,rfl⟩) hn,k _ _ ha (.inr ⟨rfl,_,rfl⟩) hn,hb⟩
 | .any,_,r=>r
theorem Bm.adopt {ρ ρ':Pl} {h h':Heap} (hp:∀ i p,ρ.pl i=some p→ρ'.pl i=some p) (hm:∀ (b:Nat) o,h.get? b=some o→Ul o→¬ρ.Mut b→¬ρ'.Mut b) (k:Fz ρ h h'):∀ {xs:List AVal} {vs:List Value},Bm ρ h xs vs→Bm ρ' h' xs vs
 | [],_,r=>r
 | _ :: _,_,⟨v,r,hv,h1,h2⟩=>⟨v,r,hv,Ce.adopt hp hm k h1,Bm.adopt hp hm k h2⟩
end
theorem Hz.adopt {w:World} {ρ ρ':Pl} {h h':Heap} {p:Nat×Nat} (hp:∀ i p,ρ.pl i=some p→ρ'.pl i=some p) (hm:∀ (b:Nat) o,h.get? b=some o→Ul o→¬ρ.Mut b→¬ρ'.Mut b) (k:Fz ρ h h')
  (k1:∀ o,h.get? p.1=some o→h'.get? p.1=some o) (k2:∀ o,h.get? p.2=some o→h'.get? p.2=some o):∀ {o:AObj},Hz w ρ h p o→Hz w ρ' h' p o
 | .inst _ _,⟨a,a',b,mA,d,f,g,i⟩=>⟨a,a',k1 _ b,mA,d.at k2,f,g,fun n av hn=>let ⟨v,hv,hr⟩:=i n av hn; ⟨v,hv,hr.adopt hp hm k⟩⟩
 | .list _,⟨a,vs,x,l,d⟩=>⟨a,vs,x.at k1,l,Bm.adopt hp hm k d⟩
 | .sdict _,⟨a,kvs,b,d,f⟩=>⟨a,kvs,DictOf.at_ b k1,d,Bm.adopt hp hm k f⟩
 | .qdict none,⟨a,n,b⟩=>⟨a,n,k1 _ b⟩
 | .qdict (some _),⟨a,n,v,b,d⟩=>⟨a,n,v,k1 _ b,Ce.adopt hp hm k d⟩
 | .cell _,⟨a,v,⟨o,ho,r⟩,d⟩=>⟨a,v,⟨o,k1 _ ho,r⟩,Ce.adopt hp hm k d⟩
 | .clos,⟨ps,pw,fd,e1,e2,b,d,f,g⟩=>⟨ps,pw,fd,hp _ _ e1,hp _ _ e2,k1 _ b,d,f,g.at k2⟩
theorem Sat.newBut {c:Cx} {ρ:Pl} {σ:AS} {h h':Heap} (S:Sat c ρ σ h) {i:Id} {p:Nat×Nat} {o:AObj} (hi:σ.R i=none) (hS:Sat c ρ σ h') (fz:Fz ρ h h') (kp:∀ b x,h.get? b=some x→ρ.Put b→h'.get? b=some x)
  (h1:¬ρ.Put p.1∧602≤p.1) (h2:¬ρ.Put p.2∧602≤p.2) (hf:∀ (b:Nat) x,h.get? b=some x→Ul x→b≠p.1∧b≠p.2) (ho:Hz c.w (Fk ρ i p) h' p o):Sat c (Fk ρ i p) (σ.add i o) h':=by
 have hi':=S.free hi
 have hne:∀ j q,ρ.pl j=some q→j≠i:=fun j q e z=>by rw [z,hi'] at e; cases e
 have hpl:∀ j q,ρ.pl j=some q→(Fk ρ i p).pl j=some q:=fun j q e=>by rw [Cn _ _ (hne j q e)]; exact e
 have hput:∀ a:Nat,(Fk ρ i p).Put a→ρ.Put a∨(a=p.1∨a=p.2):=by
  rintro a ⟨j,q,e,hm⟩
  by_cases hj:j=i
  ·subst hj; rw [B8] at e; cases e
   exact .inr hm
  ·rw [Cn _ _ hj] at e; exact .inl ⟨j,q,e,hm⟩
 have hm:∀ (b:Nat) x,h.get? b=some x→Ul x→¬ρ.Mut b→¬(Fk ρ i p).Mut b:=fun b x e hx hn q=>by
  rcases q with q | q
  ·rcases hput b q with q | q | q
   ·exact hn (.inl q)
   ·exact (hf b x e hx).1 q
   ·exact (hf b x e hx).2 q
  ·exact hn (.inr q)
 have apart:∀ j r,ρ.pl j=some r→p.1≠r.1∧p.1≠r.2∧p.2≠r.1∧p.2≠r.2:=fun j r e =>
  ⟨fun z=>h1.1 ⟨j,r,e,.inl z⟩,fun z=>h1.1 ⟨j,r,e,.inr z⟩,fun z=>h2.1 ⟨j,r,e,.inl z⟩,fun z=>h2.1 ⟨j,r,e,.inr z⟩⟩
 refine ⟨hS.base,fun j q e=>?_,fun a b q r ea eb hab=>?_,fun j x e=>?_,fun j q e=>?_,fun j e=>?_,hS.xlo⟩
 ·by_cases hj:j=i
  ·subst hj; rw [B8] at e; cases e
   exact ⟨⟨h1.2,ho.live.1⟩,h2.2,ho.live.2⟩
  ·rw [Cn _ _ hj] at e; exact hS.lo j q e
 ·by_cases ha:a=i
  ·subst ha
   have hb:b≠a:=fun z=>hab z.symm
   rw [B8] at ea; cases ea
   rw [Cn _ _ hb] at eb
   exact apart b r eb
  ·rw [Cn _ _ ha] at ea
   by_cases hb:b=i
   ·subst hb
    rw [B8] at eb; cases eb
    obtain ⟨w1,w2,w3,w4⟩:=apart a q ea
    exact ⟨w1.symm,w3.symm,w2.symm,w4.symm⟩
   ·rw [Cn _ _ hb] at eb
    exact S.inj a b q r ea eb hab
 ·by_cases hj:j=i
  ·subst hj
   rw [show (σ.add j o).R j=some o from E3 ..] at e; cases e
   exact ⟨p,B8 ..,ho⟩
  ·rw [show (σ.add i o).R j=σ.R j from Ga _ _ hj] at e
   obtain ⟨q,hq,hx⟩:=S.objs j x e
   exact ⟨q,by rw [Cn _ _ hj]; exact hq,hx.adopt hpl hm fz (fun x g=>kp _ x g ⟨j,q,hq,.inl rfl⟩) fun x g=>kp _ x g ⟨j,q,hq,.inr rfl⟩⟩
 ·by_cases hj:j=i
  ·subst hj
   rw [show (σ.add j o).R j=some o from E3 ..]; exact Option.some_ne_none _
  ·rw [show (σ.add i o).R j=σ.R j from Ga _ _ hj]
   rw [Cn _ _ hj] at e; exact S.dom j q e
 ·by_cases hj:Id.tmp j=i
  ·subst hj
   have:max σ.n (j + 1)≤j:=e
   lia
  ·rw [show (σ.add i o).R (.tmp j)=σ.R (.tmp j) from Ga _ _ hj]
   refine S.fresh j (Nat.le_trans ?_ e)
   show σ.n≤nextN σ i
   unfold nextN
   split <;> lia
theorem Sat.adoptCell {c:Cx} {ρ:Pl} {σ:AS} {h:Heap} (S:Sat c ρ σ h) {i:Id} {a:Nat} {av:AVal} {v:Value} (hi:σ.R i=none) (lo:602≤a) (hc:h.IsCell a (some v)) (hv:Ce ρ h av v) (nP:¬ρ.Put a) :
  Sat c (Fk ρ i (a,a)) (σ.add i (.cell av)) h:=by
 have hf:∀ (b:Nat) x,h.get? b=some x→Ul x→b≠a∧b≠a:=fun b x e hx=>by
  have:b≠a:=fun z=>by
   subst z
   obtain ⟨o,ho,hd⟩:=hc
   rw [ho] at e; cases e
   rcases hx with ⟨_,_,z⟩ | ⟨_,_,z⟩ <;> rw [hd] at z <;> cases z
  exact ⟨this,this⟩
 have hi':=S.free hi
 have hne:∀ j q,ρ.pl j=some q→j≠i:=fun j q e z=>by rw [z,hi'] at e; cases e
 refine S.newBut hi S (fun J J e J J=>e) (fun J J e J=>e) ⟨nP,lo⟩ ⟨nP,lo⟩ hf ⟨rfl,v,hc,hv.adopt (fun j q e=>by rw [Cn _ _ (hne j q e)]; exact e) (fun b x e hx hn q=>?_) fun J J e J J=>e⟩
 rcases q with ⟨j,q,e',hm⟩ | q
 ·by_cases hj:j=i
  ·subst hj; rw [B8] at e'; cases e'
   rcases hm with z | z <;> exact (hf b x e hx).1 z
  ·rw [Cn _ _ hj] at e'; exact hn (.inl ⟨j,q,e',hm⟩)
 ·exact hn (.inr q)
noncomputable def Abj (σ:AS) (st ws:AVal):AS:=((σ.add .scell (.cell st)).add .wcell (.cell ws)).add .chooser .clos
noncomputable def X6 (m:B1) (xs:List String):B1:=m.filter fun e=>!xs.contains e.1
theorem K4 {xs:List String}:∀ {m:B1} {x:String} {av:AVal},(X6 m xs).lookup x=some av→m.lookup x=some av∧x ∉ xs
 | [],_,_,e=>by cases e
 | (y,w) :: r,x,av,e=>by
  unfold X6 at e
  by_cases hy:xs.contains y=true
  ·rw [List.filter_cons_of_neg (by simpa using hy)] at e
   have:=K4 (m:=r) (xs:=xs) e
   refine ⟨?_,this.2⟩
   rw [List.lookup_cons]
   have hxy:(x == y)=false:=by
    cases q:x == y with
    | false=>rfl
    | true =>
     have e2:x=y:=by simpa using q
     subst e2
     exact absurd (by simpa using hy) this.2
   rw [hxy]; exact this.1
  ·rw [List.filter_cons_of_pos (by simpa using hy)] at e
   rw [List.lookup_cons] at e ⊢
   cases hxy:x == y with
   | true =>
    rw [hxy] at e
    have:x=y:=by simpa using hxy
    subst this
    exact ⟨e,by simpa using hy⟩
   | false=>rw [hxy] at e; exact K4 (m:=r) (xs:=xs) e
noncomputable def σ00:AS:=⟨fun J=>none,0⟩
set_option tactic.hygienic true in
noncomputable def Q7 (ns:List Int):Option (AVal×AS) :=
 (Vd [("script",.flist (ns.map .int))] σ00).bind fun p=>match p.1 with
  | .ret _=>none
  | .next=>(p.2.1.lookup "steps").bind fun st=>(p.2.1.lookup "wishes").bind fun ws =>
   match p.2.2.R .scell,p.2.2.R .wcell,p.2.2.R .chooser with
   | none,none,none=>(Ve (Bd (X6 p.2.1 ["steps", "wishes"]) "chooser" (.id .chooser)) (Abj p.2.2 st ws)).bind fun q=>match q.1 with
    | .ret v=>some (v,q.2.2)
    | .next=>none
   | _,_,_=>none
theorem Apd (P:Params):∃ o vs file tf flags tg inF text tt,(K P).lookup 599=some o∧o.cls=.type "code" ∧ o.data=.fields vs∧vs[11]?=some (.ref 597)∧vs.getD 11 .none=.ref 597∧vs.getD 18 .none=.str file tf ∧
  vs.getD 7 .none=.int flags tg∧vs.getD 9 .none=.bool inF∧vs.getD 10 .none=.int text tt:=⟨_,_,_,_,_,_,_,_,_,rfl,rfl,rfl,rfl,rfl,rfl,rfl,rfl,rfl⟩
theorem Qg {P:Params} {hB:Heap} (k:(K P).In hB):TabsAt [(599,597)] hB:=fun q hq=>by
 obtain rfl:=List.mem_singleton.mp hq
 obtain ⟨o,vs,file,tf,flags,tg,inF,text,tt,e,r1,r2,r3,r4,r5,r6,r7,r8⟩:=Apd P
 exact ⟨⟨o,vs,file,tf,flags,tg,inF,text,tt,k _ _ e,r1,r2,r3,r4,r5,r6,r7,r8,by decide⟩,k _ _ rfl⟩
theorem Akp {P:Params} {a:Nat} {o:Obj} (e:(K0 P).lookup a=some o):(K P).lookup a=some o∧a≠597:=Q8 e
theorem Uj {ρ:Pl} {h:Heap}:∀ {vs:List Value} {ns:List Int},IntsAre vs ns→Bm ρ h (ns.map .int) vs
 | _,_,.nil=>rfl
 | _,_,.cons i t r=>⟨_,_,rfl,⟨_,rfl⟩,Uj r⟩
noncomputable def Aoq {w:World} {hB:Heap} {mg mb:Str→Option Value} {vs:List Value} {ns:List Int} (F:Found w hB mg mb vs ns):Cx where
 w:=w
 hB:=ghostOf hB [(599,597)]
 mg:=mg
 mb:=mb
 vs:=vs
 ns:=ns
 kin:=fun a o e=>by
  obtain ⟨e1,e2⟩:=Akp e
  exact ghost_ne (F.kin _ _ e1) (by simpa using e2)
 size:=(hideAll_size _ _).trans F.size
 g:=ghost_ns (Qg F.kin) F.g
 b:=ghost_ns (Qg F.kin) F.b
 blt:=F.blt
 lim:=let ⟨mc,a,r⟩:=F.lim; ⟨mc,ghost_ns (Qg F.kin) a,r⟩
 lst:=ghost_list (Qg F.kin) F.lst
 items:=F.items
 len:=F.len
noncomputable def ρ00:Pl:=⟨fun J=>none,fun J=>False⟩
theorem Ao5 {w:World} {hB:Heap} {mg mb:Str→Option Value} {vs:List Value} {ns:List Int} (F:Found w hB mg mb vs ns):Sat (Aoq F) ρ00 σ00 hB where
 base:=fun b o e=>of_hideAll _ e
 lo:=fun i p e=>by cases e
 inj:=fun i j p q e=>by cases e
 objs:=fun i o e=>by cases e
 dom:=fun i p e=>by cases e
 fresh:=fun J J=>rfl
 xlo:=fun a e=>e.elim
theorem Ah7 {ps:Array Value}:¬Ul (tabObj ps):=by
 rintro (⟨_,_,z⟩ | ⟨z,_⟩) <;> cases z
theorem Sat.butTab {c:Cx} {ρ:Pl} {σ:AS} {h h':Heap} (S:Sat c ρ σ h) {ps:Array Value} (ht:h.get? 597=some (tabObj ps)) (hc:c.hB.get? 597=none) (hx:∀ b o,b≠597→h.get? b=some o→h'.get? b=some o):Sat c ρ σ h'∧Fz ρ h h':=by
 have fz:Fz ρ h h':=fun b o e hf J=>hx b o (fun q=>by subst q; rw [ht] at e; cases e; exact Ah7 hf) e
 exact ⟨S.step fz (fun b o e=>hx b o (fun q=>by subst q; rw [hc] at e; cases e) (S.base b o e)) (fun b o e q=>hx b o (fun z=>S.notMut (by subst z; decide) (.inl q)) e)
  fun a o q e=>⟨o,hx a o (fun z=>S.notMut (a:=a) (by subst z; decide) (.inr q)) e⟩,fz⟩
theorem Sat.adoptCell2 {c:Cx} {ρ:Pl} {σ:AS} {h:Heap} (S:Sat c ρ σ h) {i:Id} {a:Nat} {av:AVal} {v:Value} (hi:σ.R i=none) (lo:602≤a) (hc:h.IsCell a (some v)) (hv:Ce ρ h av v) (nP:¬ρ.Put a) :
  Sat c (Fk ρ i (a,a)) (σ.add i (.cell av)) h∧(∀ {x:AVal} {v:Value},Ce ρ h x v→Ce (Fk ρ i (a,a)) h x v)∧∀ b:Nat,b≠a→¬ρ.Put b→¬(Fk ρ i (a,a)).Put b:=by
 have hi':=S.free hi
 have hne:∀ j q,ρ.pl j=some q→j≠i:=fun j q e z=>by rw [z,hi'] at e; cases e
 refine ⟨S.adoptCell hi lo hc hv nP,fun {x v} r=>r.adopt (fun j q e=>by rw [Cn _ _ (hne j q e)]; exact e) (fun b x e hx hn q=>?_) fun J J e J J=>e,fun b hb hn q=>?_⟩
 ·have hba:b≠a:=fun z=>by
   subst z
   obtain ⟨o,ho,hd⟩:=hc
   rw [ho] at e; cases e
   rcases hx with ⟨_,_,z⟩ | ⟨_,_,z⟩ <;> rw [hd] at z <;> cases z
  rcases q with ⟨j,q,e',hm⟩ | q
  ·by_cases hj:j=i
   ·subst hj; rw [B8] at e'; cases e'
    rcases hm with z | z <;> exact hba z
   ·rw [Cn _ _ hj] at e'; exact hn (.inl ⟨j,q,e',hm⟩)
  ·exact hn (.inr q)
 ·obtain ⟨j,q,e',hm⟩:=q
  by_cases hj:j=i
  ·subst hj; rw [B8] at e'; cases e'
   rcases hm with z | z <;> exact hb z
  ·rw [Cn _ _ hj] at e'; exact hn ⟨j,q,e',hm⟩
theorem Aib:fB (Ba 94)=(fB (Ba 94)).take 4++(chSt :: (fB (Ba 94)).drop 5):=by kernel_rfl
theorem Akz:∃ params body scope pos,chSt=.FunctionDef (sx "chooser") params body [] none [] scope none (sx "chooser") pos∧params=fA chSt∧body=fB chSt∧scope=fS chSt∧params.defaults=[]∧params.kw_defaults=[]∧(∀ env,annTrees params none env=[]):=⟨_,_,_,_,rfl,rfl,rfl,rfl,rfl,rfl,fun J=>rfl⟩
theorem Aky (cells:List (Str×Addr)):Hp cells (fS chSt).names []=[(sx "wishes",(cells.lookup (sx "wishes")).getD 0),(sx "steps",(cells.lookup (sx "steps")).getD 0)]:=by kernel_rfl
theorem Ak0:∀ n,(n,NameKind.free)∈(fS chSt).names→n=sx "wishes" ∨ n=sx "steps" := by
 have:((fS chSt).names.all fun x=>x.2 != .free || (x.1 == sx "wishes" || x.1 == sx "steps"))=true:=by decide +kernel
 intro n hn
 have h:=List.all_eq_true.mp this _ hn
 simpa using h
theorem Nq:Plain (fS (Ba 94)) ["script"] ["first", "steps", "wishes"]:=Rf (by kernel_rfl)
theorem Alf (P:Params):∃ name qual doc pm cd ct,(K0 P).lookup 600=some ⟨.type "function",none,.func (fnOf name qual (fA (Ba 94)) (fB (Ba 94)) (fS (Ba 94)) .none .none doc pm none cd ct),#[]⟩∧codeIn (K0 P) cd qual=true∧cd=.ref 599:=⟨_,_,_,_,_,_,rfl,by kernel_rfl,rfl⟩
theorem Agz {h:Heap} {a:Nat} {mm:Str→Option Value} {ps:Array Value} (x:h.Ns a mm) (ht:h.get? 597=some (tabObj ps)):a≠597:=fun q=>by
 subst q
 obtain ⟨o,es,ep,ho,hd,_⟩:=x
 rw [ht] at ho; cases ho; cases hd
theorem Aks {c:Cx} {ρ:Pl} {σ:AS} {env:Env} {m:B1} {h h₂:Heap} {st ws:AVal} (S:St c ρ fiA σ env m h) (ht:h.get? 597=some (tabObj #[])) (hct:c.hB.get? 597=none)
  (hst:m.lookup "steps" = some st) (hws:m.lookup "wishes" = some ws) (r1:σ.R .scell=none) (r2:σ.R .wcell=none) (r3:σ.R .chooser=none)
  {fd:FuncData} {c':Nat} (hx:Heap.ExtBut 597 h h₂) (hge:h.objs.size≤c') (hlt:c' < h₂.objs.size) (hrec:h₂.CodeRec (.ref c') fd.qualname) (hcode:fd.code=.ref c')
  (hok:∀ a b,env.cells.lookup (sx "steps")=some a→env.cells.lookup (sx "wishes")=some b→ClosOk fd a b) :
  ∃ ρ',St c ρ' fiB (Abj σ st ws) env (X6 m ["steps", "wishes"]) (h₂.push { cls:=.type "function",data:=.func fd })∧Ce ρ' (h₂.push { cls:=.type "function",data:=.func fd }) (.id .chooser) (.ref h₂.objs.size):=by
 generalize hh3:h₂.push { cls:=.type "function",data:=.func fd }=h₃
 have hx3:∀ b o,b≠597→h.get? b=some o→h₃.get? b=some o:=fun b o hb e=>by rw [← hh3]; exact Heap.get?_push_of_some _ (hx b o hb e)
 obtain ⟨mm,hns,hl⟩:=S.locs
 have big:=S.sat.big
 have own_ne:∀ a,Own fiA env a→a≠597:=fun a q=>by have:=(S.own a q).2.1; intro z; subst z; exact absurd this (by decide)
 have own3:∀ a o,Own fiA env a→h.get? a=some o→h₃.get? a=some o:=fun a o q e=>hx3 a o (own_ne a q) e
 have cellOf:∀ x av,x∈(["first", "steps", "wishes"]:List String)→m.lookup x=some av→∃ v a,Ce ρ h av v∧env.cells.lookup (sx x)=some a∧h.IsCell a (some v)∧Own fiA env a:=fun x av hx e=>by
  obtain ⟨v,hv,hq⟩:=hl x av e
  rcases hq with ⟨n1,_,_⟩ | ⟨_,a,ha,hc⟩
  ·exact absurd hx n1
  ·exact ⟨v,a,hv,ha,hc,.inr ⟨x,hx,ha⟩⟩
 obtain ⟨vs,a,hvs,ha,hca,oa⟩:=cellOf "steps" st (by decide) hst
 obtain ⟨vw,b,hvw,hb,hcb,ob⟩:=cellOf "wishes" ws (by decide) hws
 have hab:a≠b:=fun z=>by
  subst z
  exact absurd (E4 (S.env.apart _ _ _ ha hb)) (by decide)
 obtain ⟨na,la,oa',ga⟩:=S.own a oa
 obtain ⟨nb,lb,ob',gb⟩:=S.own b ob
 obtain ⟨S4,mv4,np4⟩:=S.sat.adoptCell2 r1 la hca hvs (fun q=>na (.inl q))
 have r2':(σ.add .scell (.cell st)).R .wcell=none:=by
  show upd σ.R .scell (.cell st) .wcell=none
  rw [Ga _ _ (by decide)]; exact r2
 obtain ⟨S5,mv5,np5⟩:=S4.adoptCell2 r2' lb hcb (mv4 hvw) (np4 b (Ne.symm hab) fun q=>nb (.inl q))
 generalize hρ5:Fk (Fk ρ .scell (a,a)) .wcell (b,b)=ρ5 at S5 mv5 np5
 have r3':((σ.add .scell (.cell st)).add .wcell (.cell ws)).R .chooser=none:=by
  show upd (upd σ.R .scell (.cell st)) .wcell (.cell ws) .chooser=none
  rw [Ga _ _ (by decide),Ga _ _ (by decide)]
  exact r3
 have hps:ρ5.pl .scell=some (a,a):=by rw [← hρ5,Cn _ _ (by decide)]; exact B8 ..
 have hpw:ρ5.pl .wcell=some (b,b):=by rw [← hρ5]; exact B8 ..
 have hX:∀ q:Nat,ρ5.X q→ρ.X q:=fun q z=>by rw [← hρ5] at z; exact z
 have lta:@LT.lt Nat _ a h.objs.size:=Heap.lt_size ga
 have ltb:@LT.lt Nat _ b h.objs.size:=Heap.lt_size gb
 have npNew:∀ q:Nat,h.objs.size≤q→¬ρ5.Put q:=fun q hq=>np5 q (by lia) (np4 q (by lia) fun z=>S.sat.fresh_notMut (Heap.get?_none_of_le hq) (.inl z))
 have hfn:h₃.get? h₂.objs.size=some ⟨.type "function",none,.func fd,#[]⟩:=by rw [← hh3]; exact Heap.get?_push_size _ rfl
 have hge2:h.objs.size≤h₂.objs.size:=Nat.le_trans hge (Nat.le_of_lt hlt)
 have hrec3:h₃.CodeRec (.ref c') fd.qualname:=by rw [← hh3]; exact hrec.push _
 have hcl:Hz c.w (Fk ρ5 .chooser (h₂.objs.size,c')) h₃ (h₂.objs.size,c') .clos :=
  ⟨(a,a),(b,b),fd,by rw [Cn _ _ (by decide)]; exact hps,by rw [Cn _ _ (by decide)]; exact hpw,hfn,hok a b ha hb,hcode,hrec3⟩
 obtain ⟨S6,fz6⟩:=S5.butTab ht hct hx3
 have old_ne:∀ (x:Nat) o,h.get? x=some o→x≠h₂.objs.size∧x≠c':=fun x o e=>by
  have:@LT.lt Nat _ x h.objs.size:=Heap.lt_size e
  exact ⟨by lia,by lia⟩
 have S7:=S5.newBut (i:=.chooser) (p:=(h₂.objs.size,c')) r3' S6 fz6 (fun x o e q=>hx3 x o (fun z=>S5.notMut (by subst z; decide) (.inl q)) e)
  ⟨npNew _ hge2,Nat.le_trans big hge2⟩ ⟨npNew _ hge,Nat.le_trans big hge⟩ (fun x o e J=>old_ne x o e) hcl
 have hi':=S5.free r3'
 have hne:∀ j q,ρ5.pl j=some q→j≠.chooser:=fun j q e z=>by rw [z,hi'] at e; cases e
 have mut7:∀ (x:Nat) o,h.get? x=some o→¬ρ5.Mut x→¬(Fk ρ5 .chooser (h₂.objs.size,c')).Mut x:=fun x o e hn q=>by
  rcases q with ⟨j,q,e',hm⟩ | q
  ·by_cases hj:j=.chooser
   ·subst hj; rw [B8] at e'; cases e'
    rcases hm with z | z
    ·exact (old_ne x o e).1 z
    ·exact (old_ne x o e).2 z
   ·rw [Cn _ _ hj] at e'; exact hn (.inl ⟨j,q,e',hm⟩)
  ·exact hn (.inr q)
 have mv7:∀ {x:AVal} {v:Value},Ce ρ h x v→Ce (Fk ρ5 .chooser (h₂.objs.size,c')) h₃ x v:=fun r =>
  (mv5 (mv4 r)).adopt (fun j q e=>by rw [Cn _ _ (hne j q e)]; exact e) (fun x o e J hn=>mut7 x o e hn) fz6
 refine ⟨_,⟨S7,⟨mm,?_,fun x av hx=>?_⟩,fun q hq=>?_,fun q hq=>?_,fun x hx=>?_,fun x i hx=>(by cases hx),?_⟩,?_⟩
 ·obtain ⟨o,es,ep,ho,r⟩:=hns
  exact ⟨o,es,ep,own3 _ _ (.inl rfl) ho,r⟩
 ·obtain ⟨hx1,hx2⟩:=K4 hx
  obtain ⟨v,hv,hq⟩:=hl x av hx1
  refine ⟨v,mv7 hv,?_⟩
  rcases hq with ⟨n1,n2,n3⟩ | ⟨hq,a',ha',o',ho',hd'⟩
  ·exact .inl ⟨fun z=>n1 (by (have:x = "first" := by simpa using z); subst this; decide),n2,n3⟩
  ·have hxc:x∈(["first", "steps", "wishes"]:List String):=hq.elim id fun z=>by cases z
   have hx3':x = "first" := by
    have h1:x = "first" ∨ x = "steps" ∨ x = "wishes" := by simpa using hxc
    have h2:x ≠ "steps" ∧ x ≠ "wishes" := by simpa using hx2
    exact h1.elim id fun z=>z.elim (fun z=>absurd z h2.1) fun z=>absurd z h2.2
   exact .inr ⟨.inl (by subst hx3'; decide),a',ha',o',own3 a' o' (.inr ⟨x,hxc,ha'⟩) ho',hd'⟩
 ·have hqA:Own fiA env q:=by
   rcases hq with hq | ⟨x,hx,hq⟩
   ·exact .inl hq
   ·have:x = "first" := by simpa using hx
    subst this
    exact .inr ⟨"first",by decide,hq⟩
  obtain ⟨n1,n2,o,n3⟩:=S.own q hqA
  have hqa:q≠a:=by
   rintro rfl
   rcases hq with hq | ⟨x,hx,hq⟩
   ·exact S.env.off _ _ ha hq
   ·have:x = "first" := by simpa using hx
    subst this
    exact absurd (E4 (S.env.apart _ _ _ hq ha)) (by decide)
  have hqb:q≠b:=by
   rintro rfl
   rcases hq with hq | ⟨x,hx,hq⟩
   ·exact S.env.off _ _ hb hq
   ·have:x = "first" := by simpa using hx
    subst this
    exact absurd (E4 (S.env.apart _ _ _ hq hb)) (by decide)
  refine ⟨mut7 q o n3 fun z=>?_,n2,o,own3 q o hqA n3⟩
  rcases z with z | z
  ·exact np5 q hqb (np4 q hqa fun w=>n1 (.inl w)) z
  ·exact n1 (.inr (hX q z))
 ·obtain ⟨x,hx,_⟩:=hq; cases hx
 ·have:x = "first" := by simpa using hx
  subst this
  obtain ⟨a',v,e1,o,e2,e3⟩:=S.cell "first" (by decide)
  exact ⟨a',v,e1,o,own3 a' o (.inr ⟨_,by decide,e1⟩) e2,e3⟩
 ·exact ⟨S.env.kind,S.env.names,S.env.glob,S.env.blt,S.env.apart,S.env.off⟩
 ·exact ⟨_,B8 ..,rfl⟩
inductive RunOf (ns:List Int) (σ':AS):Prop
 | mk (mA:B1) (σA:AS) (st ws:AVal) (mB:B1) (σB:AS) (hA:Vd [("script",.flist (ns.map .int))] σ00=some (.next,mA,σA)) (hst:mA.lookup "steps" = some st) (hws:mA.lookup "wishes" = some ws)
  (r1:σA.R .scell=none) (r2:σA.R .wcell=none) (r3:σA.R .chooser=none) (hB:Ve (Bd (X6 mA ["steps", "wishes"]) "chooser" (.id .chooser)) (Abj σA st ws)=some (.ret (.bool true),mB,σB)):RunOf ns σ'
theorem Agu {ns:List Int} {σ':AS} (hr:Q7 ns=some (.bool true,σ')):RunOf ns σ':=by
 unfold Q7 at hr
 obtain ⟨⟨fl,mA,σA⟩,hA,hr⟩:=bind_some hr
 dsimp only at hr
 cases fl with
 | ret v=>cases hr
 | next =>
 dsimp only at hr
 obtain ⟨st,hst,hr⟩:=bind_some hr
 obtain ⟨ws,hws,hr⟩:=bind_some hr
 (set_option tactic.hygienic true in split at hr)
 case h_2=>cases hr
 rename_i r1 r2 r3
 obtain ⟨⟨fl,mB,σB⟩,hB',hr⟩:=bind_some hr
 dsimp only at hr
 cases fl with
 | next=>cases hr
 | ret v =>
 cases hr
 exact ⟨mA,σA,st,ws,mB,_,hA,hst,hws,r1,r2,r3,hB'⟩
theorem Ads {w:World} {hB:Heap} {mg mb:Str→Option Value} {vs:List Value} {ns:List Int} {d:Drawn} {tk:Tok} {os:OsState} (F:Found w hB mg mb vs ns) (bm:hB.BuiltinsAt mg 597) {σ':AS} (hr:Q7 ns=some (.bool true,σ')) :
  wpAny (model pw w) callerA (PySem.call (.ref 600) [.ref 601]) (Aon hB os) (fun J J=>False) ⟨hB,#[],d,tk,os⟩:=by
 obtain ⟨mA,σA,st,ws,mB,σB,hA,hst,hws,r1,r2,r3,hB'⟩:=Agu hr
 have S₀:=Ao5 F
 have hTabs:=Qg F.kin
 generalize hcx:Aoq F=c at S₀
 have ecw:c.w=w:=by rw [← hcx]; rfl
 have hct:c.hB.get? 597=none:=by rw [← hcx]; exact hideAll_none _ (by decide)
 have hcB:∀ b o,b≠597→hB.get? b=some o→c.hB.get? b=some o:=fun b o hb e=>by rw [← hcx]; exact ghost_ne e (by simpa using hb)
 have htab0:hB.get? 597=some (tabObj #[]):=F.kin _ _ rfl
 have hargs:Bm ρ00 hB [.flist (ns.map .int)] [.ref 601]:=by
  refine ⟨_,_,rfl,⟨601,vs,rfl,?_,F.lst,?_,Uj F.items⟩,rfl⟩
  ·rintro (⟨i,p,e,_⟩ | e)
   ·cases e
   ·exact e
  ·have h1:(ns.map AVal.int).length=vs.length:=(Uj (ρ:=ρ00) (h:=hB) F.items).len.symm
   rw [List.length_map] at h1
   have:=F.len
   omega
 obtain ⟨name,qual,doc,pm,cd,ct,hK,hcd,hcd9⟩:=Alf c.w.params
 have ho:=S₀.base _ _ (c.kin _ _ hK)
 have hcr:hB.CodeRec cd qual:=(codeRec_of c.kin hcd).keeps S₀.base
 subst ecw
 refine wpAny_call (codeAny_call_cells (fd:=fnOf name qual (fA (Ba 94)) (fB (Ba 94)) (fS (Ba 94)) .none .none doc pm none cd ct) (body:=fB (Ba 94)) (binds:=[(sx "script",.ref 601)]) (by decide) ho rfl F.lim hcr rfl rfl rfl ?_ ?_ Nq.co Nq.gen Nq.kind)
 ·intro x hx
  rw [List.mem_singleton.mp hx]
  exact .inl (show (fS (Ba 94)).names.lookup (sx "script")=some NameKind.local by decide +kernel)
 intro s₁ x
 obtain ⟨h₁,tk₁,rfl⟩:=x.toInCall.same
 have kp:C5 hB h₁:=x.toInCall.keep
 generalize hE:callEnvC (fnOf name qual (fA (Ba 94)) (fB (Ba 94)) (fS (Ba 94)) .none .none doc pm none cd ct) hB.objs.size 600=env at x ⊢
 have e1:env.scope=fS (Ba 94):=by rw [← hE]; rfl
 have e2:env.locals=hB.objs.size:=by rw [← hE]; rfl
 have e3:env.globals=mainGlobals:=by rw [← hE]; rfl
 have e4:env.builtins=builtinsNs:=by rw [← hE]; rfl
 have e5:env.cells=cellsFrom (hB.objs.size + 1) (fS (Ba 94)).names []:=by rw [← hE]; rfl
 have e6:env.code=.ref 599:=by rw [← hE,← hcd9]; rfl
 have S₁:St c ρ00 fiA σ00 env [("script",.flist (ns.map .int))] h₁:=Ahy (ps:=["script"]) Nq S₀ hargs rfl e1 e2 e3 e4 e5 x
 have R₁:Room (callerA.deeper env) 48:=Room.deeper ⟨rfl,by decide,by decide⟩ env
 show wpAny c.M (callerA.deeper env) (execs (fB (Ba 94)) env) _ _ _
 rw [Aib]
 refine Sz (Ane c env _ _ _ mA σA hA _ ρ00 h₁ d _ os _ _ R₁ S₁ fun f h₂ tk₂ ρ₂ hf eA oA S₂=>?_)
 cases hf
 dsimp only
 have k2:∀ (b:Nat) o,b < 602→hB.get? b=some o→h₂.get? b=some o:=fun b o hb e=>oA.2 b o (kp b o e) (fun z=>by obtain ⟨_,_,z,_⟩:=z; cases z) fun z=>by
  have:=(S₁.own b z).2.1
  omega
 have ltB:∀ (b:Nat) o,hB.get? b=some o→b < 602:=fun b o e=>by
  have h1:@LT.lt Nat _ b hB.objs.size:=Heap.lt_size e
  rw [F.size] at h1; exact h1
 obtain ⟨params,body,scope,pos,hch,hp1,hp2,hp3,hd0,hk0,hann⟩:=Akz
 have hfree:∀ n,(n,NameKind.free)∈scope.names→(env.cells.lookup n).isSome=true:=fun n hn=>by
  rw [hp3] at hn
  rcases Ak0 n hn with rfl | rfl
  ·obtain ⟨a,v,ha,_⟩:=S₂.cell "wishes" (by decide); rw [ha]; rfl
  ·obtain ⟨a,v,ha,_⟩:=S₂.cell "steps" (by decide); rw [ha]; rfl
 rw [execs_cons,hch]
 refine wpAny_bind (nestDef_K hd0 hk0 (hann env) (makeFunction_K (mg:=c.mg) (P:=597) (c:=599) (ps:=#[]) (O6 hfree) e3 (c.g.keeps S₂.sat.base) e6 ((hTabs (599,597) (by simp)).1.keeps fun b o e=>k2 b o (ltB b o e) e) (k2 _ _ (by decide) htab0) trivial rfl (fun z=>by have:=Agz F.g htab0; exact this z) ?_ ?_))
 ·obtain ⟨bmv,ob,b1,b2,b3,b4,b5,b6⟩:=bm
  have:c.mg=mg:=by rw [← hcx]; rfl
  exact ⟨bmv,ob,by rw [this]; exact b1,b2,b3,b4,k2 _ _ (ltB _ _ b5) b5,b6⟩
 intro c' ctv doc' h₃ tk₃ hx hge hlt hrec htb
 dsimp only at hx hge ⊢
 have hok:∀ a b,env.cells.lookup (sx "steps")=some a→env.cells.lookup (sx "wishes")=some b →
   ClosOk (fnX (sx "chooser") (qualnameIn env (sx "chooser") (sx "chooser")) params body scope (Hp env.cells scope.names []) .none .none doc' ((c.mg "__name__").getD .none) none (.ref c') ctv) a b:=fun a b ha hb =>
  ⟨hp1,by rw [← hp2],hp3,rfl,rfl,by rw [hp3]; show Hp env.cells (fS chSt).names []=_; rw [Aky,ha,hb]; rfl,rfl,rfl⟩
 obtain ⟨ρ₄,S₄,hv⟩:=Aks S₂ (k2 _ _ (by decide) htab0) hct hst hws r1 r2 r3 hx hge hlt hrec rfl hok
 refine S₄.storeLoc (by kernel_rfl) hv fun h₅ tk₅ S₅ o₅=>?_
 refine Anf c env _ _ _ mB _ hB' _ ρ₄ h₅ d _ os _ _ R₁ S₅ fun f h₆ tk₆ ρ₆ hf eB oB S₆=>?_
 obtain ⟨v,rfl,hv6⟩:=hf
 cases hv6
 have kpAll:∀ (b:Nat) o,b < 602→b≠597→hB.get? b=some o→h₆.get? b=some o:=fun b o hb h97 e=>by
  have g3:=hx b o h97 (k2 b o hb e)
  have g4:=o₅.2 b o (Heap.get?_push_of_some _ g3) (fun z=>S₄.sat.notMut hb (.inl z)) fun z=>by
   have:=(S₄.own b z).2.1
   omega
  exact oB.2 b o g4 (fun z=>S₅.sat.notMut hb (.inl z)) fun z=>by
   have:=(S₅.own b z).2.1
   omega
 have tab6:h₆.get? 597=some (tabObj (#[]++#[rawInt pos.line,rawInt pos.col,.ref c'])):=by
  have g4:=o₅.2 597 _ (Heap.get?_push_of_some _ htb) (fun z=>S₄.sat.notMut (by decide) (.inl z)) fun z=>by
   have:=(S₄.own 597 z).2.1
   omega
  exact oB.2 597 _ g4 (fun z=>S₅.sat.notMut (by decide) (.inl z)) fun z=>by
   have:=(S₅.own 597 z).2.1
   omega
 refine ⟨rfl,⟨fun b o e=>?_,fun b o e=>?_⟩,rfl,rfl⟩
 ·by_cases h97:b=597
  ·subst h97
   rw [htab0] at e; cases e
   exact .inr (.inl ⟨((hTabs (599,597) (by simp)).1.tab htab0).isCodeTable,rfl,#[],_,rfl,tab6⟩)
  ·exact .inl (kpAll b o (ltB b o e) h97 e)
 ·by_cases h97:b=597
  ·subst h97; exact ⟨_,tab6⟩
  ·exact ⟨o,kpAll b o (ltB b o e) h97 e⟩
section
open PySem PySem.W PyProof.Rows PySem.W.X
theorem holds_of_run (H:∀ ns:List Int,ns.length≤63→∃ σ',Q7 ns=some (.bool true,σ')):rw0.Holds:=by
 refine Wp fun dd kwd hdef=>?_
 intro w s₀ s₁ mg mb G y fa o pm cd doc dV kV ho hd hcd hD hmg hg args vals as L hpre hlay hrd hwl hlo
 obtain ⟨ZA,ZI,ZN,ZT⟩:=z_facts (K:=K) (as:=keys) (fun P=>by kernel_rfl) y
 refine Ground.open G ?_
 intro T B D TE TW
 wrow_args hpre hlay hrd hwl hlo
 (rename IntsAre _ _=>hI); (rename Heap.IsList _ _ _=>hL); (rename ¬ _ < _=>hlen)
 obtain ⟨hat,hsz⟩:=script_at L
 rw [ZN] at hat hsz
 subst hat
 have KX:(K w.params).In s₁.heap:=InK.keeps w s₀.heap s₁.heap ZI L.keeps
 have hn:dd.name=sx "law" := defOf_name hdef
 rw [hn,Aoo w.params (sx "law") (.ref 600) _ _ KX T.g (Ans w.params)] at hmg
 cases hmg
 obtain ⟨h1,g1,d1,t1,o1⟩:=s₁
 cases hg
 have htab:h1.get? 597=some (tabObj #[]):=KX _ _ rfl
 have hbm:h1.BuiltinsAt mg 597:=by
  obtain ⟨bm,ob,b1,b2,b3,b4,b5,b6⟩:=T.bmain
  refine ⟨bm,ob,b1,b2,fun q=>?_,fun q=>?_,b3,b4,b5,b6⟩
  ·obtain ⟨o,es,ep,e,hd,_⟩:=T.g
   rw [q,e] at b3; cases b3; rw [hd] at b6; cases b6
  ·rw [q,htab] at b3; cases b3; cases b4
 have hF:Found w h1 mg mb _ _:=⟨KX,hsz,T.g,T.b,T.builtins,T.nolimit,hL,hI,by lia⟩
 obtain ⟨σ',hrun⟩:=H _ hF.len
 refine wpAny_mono (Ads hF hbm hrun) (fun v s' e=>?_) (fun J J e=>e.elim)
 obtain ⟨rfl,e2,e3,e4⟩:=e
 refine ⟨.inl ⟨_,_,[],rfl,fun J=>rfl,ReadsW.bool true,?_,fun J=>⟨List.nodup_nil,fun J hm=>(nomatch hm)⟩⟩,e2,e3,by rw [e4]; exact AllBare.empty⟩
 exact postW_of (by wrow_shape) (by wtm_val) (by w_fin)
end
section
structure TS where
 num:Int
 name:String
 mas:AVal
 st:String
 op:AVal
 wake:AVal
 late:AVal
 call:AVal
 rsd:AVal
 ans:AVal
 act:AVal
 pend:Int
 failed:Bool
structure MS where
 num:Int
 ended:Bool
 deps:List AVal
structure SS where
 got:List AVal
 next:AVal
 hand:AVal
 does:String
structure Ws where
 n:Nat
 tn:Nat
 T:Nat→TS
 q:Nat→Option AVal
 sv:Nat→List AVal
 ms:Nat→List AVal
 M:Nat→Option MS
 lib:MS
 nums:Int
 settled:Int
 now:Int
 truth:List AVal
 told:List AVal
 crew:List AVal
 rests:Int
 nested:Bool
 pat:Bool
 slow:Int
 left:List AVal
 snext:AVal
 shand:AVal
 sdoes:String
 ns:Nat
 sn:Nat
 S:Nat→SS
 steps:List AVal
 wishes:AVal
 G:Nat→Option AObj
 gn:Nat
 z:False→Ws
noncomputable def tf (i:Nat) (t:TS):List (String×AVal):=[("number",.int t.num),("name",.str t.name),("master",t.mas),("state",.str t.st),("queues",.id (.queues i)),("open",t.op),("wake",t.wake),("late",t.late),("call",t.call),
 ("serving",.id (.serving i)),("masters",.id (.masters i)),("raised",t.rsd),("answer",t.ans),("is_abnormal",.bool false),("inside",.int 0),("activator",t.act),("pending",.int t.pend),("has_failed",.bool t.failed),
 ("stack",.flist []),("frame",.none),("result",.none),("bases",.flist []),("caught",.flist []),("resume",.none),("leaving",.none),("line",.int 0)]
noncomputable def mF (m:MS) (o:AVal) (d:Id):List (String×AVal):=[("number",.int m.num),("owner",o),("dependents",.id d),("is_ended",.bool m.ended)]
noncomputable def tkF (w:Ws):List (String×AVal):=[("limits",.id .limits),("choose",.id .chooser),("clock",.id .clock),("tasks",.id .tasksL),("numbers",.int w.nums),("settled",.int w.settled),("library",.id .lib),("lost",.flist []),("serve",.none)]
noncomputable def Apf:List (String×AVal):=[("width",.int 32),("steps",.int 1000000),("depth",.int 50),("members",.int 10000),("text",.int 100000),("tasks",.int 50),("heap",.int 1000000)]
noncomputable def Amt (w:Ws):List (String×AVal):=[("tasking",.id .tasking),("truth",.id .rows),("stages",.id .stages),("crew",.id .crew),("told",.id .told),("rests",.int w.rests),("is_nested",.bool w.nested),("has_patience",.bool w.pat),("slow",.int w.slow)]
noncomputable def Al0 (w:Ws):List (String×AVal):=[("left",.id .left),("next",w.snext),("hand",w.shand),("does",.str w.sdoes)]
noncomputable def sF (i:Nat) (s:SS):List (String×AVal):=[("got",.id (.got i)),("next",s.next),("hand",s.hand),("does",.str s.does)]
noncomputable def tl (n:Nat):List AVal:=(List.range n).map fun i=>.id (.task i)
noncomputable def sl (n:Nat):List AVal:=(List.range n).map fun i=>.id (.stage i)
noncomputable abbrev Vj (i:Nat) (t:TS):AObj:=.inst 190 (tf i t)
noncomputable abbrev Z7 (m:MS) (o:AVal) (d:Id):AObj:=.inst 323 (mF m o d)
noncomputable def toR (w:Ws):Aa4
 | .tasking=>some (.inst 496 (tkF w))
 | .clock=>some (.inst 134 [("now",.int w.now)])
 | .limits=>some (.inst 468 Apf)
 | .lib=>some (Z7 w.lib .none .libDeps)
 | .libDeps=>some (.list w.lib.deps)
 | .tasksL=>some (.list (tl w.tn))
 | .mill=>some (.sdict (Amt w))
 | .stages=>some (.list (sl w.sn))
 | .crew=>some (.list w.crew)
 | .told=>some (.list w.told)
 | .source=>some (.sdict (Al0 w))
 | .left=>some (.list w.left)
 | .steps=>some (.list w.steps)
 | .rows=>some (.list w.truth)
 | .chooser=>some .clos
 | .scell=>some (.cell (.id .steps))
 | .wcell=>some (.cell w.wishes)
 | .task i=>if i < w.n then some (Vj i (w.T i)) else none
 | .queues i=>if i < w.n then some (.qdict (w.q i)) else none
 | .serving i=>if i < w.n then some (.list (w.sv i)) else none
 | .masters i=>if i < w.n then some (.list (w.ms i)) else none
 | .master i=>(w.M i).map fun m=>Z7 m (.id (.task i)) (.deps i)
 | .deps i=>(w.M i).map fun m=>.list m.deps
 | .stage i=>if i < w.ns then some (.sdict (sF i (w.S i))) else none
 | .got i=>if i < w.ns then some (.list (w.S i).got) else none
 | .found _=>none
 | .tmp k=>w.G k
noncomputable def toA (w:Ws):AS:=⟨toR w,w.gn⟩
noncomputable def updN {α:Type} (f:Nat→α) (i:Nat) (x:α):Nat→α:=fun j=>if j=i then x else f j
theorem Al {α:Type} (f:Nat→α) (i:Nat) (x:α):updN f i x i=x:=if_pos rfl
theorem Av {α:Type} (f:Nat→α) {i j:Nat} (x:α) (h:j≠i):updN f i x j=f j:=if_neg h
noncomputable def Ws.setT (w:Ws) (i:Nat) (t:TS):Ws:={ w with T:=updN w.T i t }
noncomputable def Ws.setq (w:Ws) (i:Nat) (x:Option AVal):Ws:={ w with q:=updN w.q i x }
noncomputable def Ws.setsv (w:Ws) (i:Nat) (x:List AVal):Ws:={ w with sv:=updN w.sv i x }
noncomputable def Ws.setms (w:Ws) (i:Nat) (x:List AVal):Ws:={ w with ms:=updN w.ms i x }
noncomputable def Ws.setM (w:Ws) (i:Nat) (m:MS):Ws:={ w with M:=updN w.M i (some m) }
noncomputable def Ws.setS (w:Ws) (i:Nat) (x:SS):Ws:={ w with S:=updN w.S i x }
noncomputable def Ws.setG (w:Ws) (k:Nat) (x:AObj):Ws:={ w with G:=updN w.G k (some x) }
theorem Of {R:Aa4} {n:Nat} {w:Ws} (hn:n=w.gn) (h:∀ i,R i=toR w i):(⟨R,n⟩:AS)=toA w:=by
 subst hn
 exact congrArg (fun R=>(⟨R,w.gn⟩:AS)) (funext h)
section
variable {w:Ws} {i:Nat}
theorem Ajz {t:TS} (h:i < w.n):(toA w).set (.task i) (Vj i t)=toA (w.setT i t):=by
 refine Of rfl fun j=>?_
 show upd (toR w) _ _ j=_
 unfold upd
 (set_option tactic.hygienic true in split)
 ·rename_i e; subst e
  show _=if i < w.n then some (Vj i (updN w.T i t i)) else none
  rw [if_pos h,Al]
 ·rename_i e
  cases j with
  | task j =>
   have hj:j≠i:=fun z=>e (congrArg Id.task z)
   show (if j < w.n then some (Vj j (w.T j)) else none)=if j < w.n then some (Vj j (updN w.T i t j)) else none
   rw [Av _ _ hj]
  | _=>rfl
theorem Ahh (h:i < w.n):(toA w).R (.task i)=some (Vj i (w.T i)):=if_pos h
end
section
variable {w:Ws} {i:Nat} (h:i < w.n)
include h
theorem Eu (n:String):(toA w).field (.id (.task i)) n=(tf i (w.T i)).lookup n:=by
 show (match (toA w).R (.task i) with | some (.inst _ fs)=>fs.lookup n | _=>none)=_
 rw [Ahh h]
theorem Fl {n:String} {x:AVal} {t:TS} (e:Bd (tf i (w.T i)) n x=tf i t):(toA w).setF (.id (.task i)) n x=some (toA (w.setT i t)):=by
 show (match (toA w).R (.task i) with | some (.inst C fs)=>if fs.length < 200 then some ((toA w).set (.task i) (.inst C (Bd fs n x))) else none | _=>none)=_
 rw [Ahh h]
 show (if (tf i (w.T i)).length < 200 then some ((toA w).set (.task i) (.inst 190 (Bd (tf i (w.T i)) n x))) else none)=_
 rw [if_pos (show (tf i (w.T i)).length < 200 from (by decide:26 < 200)),e,Ajz h]
end
end
section
section
variable {m m₁ m₂ m':B1} {σ σ₁ σ₂ σ₃ σ₄:AS} {r:Option (AFl×B1×AS)} {a b:SD} {d d1 d2 d3:D} {bb b1 b2:B} {v v1 v2 v3 x y:AVal} {fl:AFl} {n:Nat} {s nm:String} {t:Bool} {T:Tg} {ds:Ds} {vs:List AVal} {f:Int→Int→Option Int} {c:Cmp}
theorem Ak (h1:a m σ=some (.next,m₁,σ₁)) (h2:b m₁ σ₁=r):Am a b m σ=r:=by
 show (a m σ).bind _=r
 rw [h1]; exact h2
theorem A8 (h1:a m σ=some (.ret v,m₁,σ₁)):Am a b m σ=some (.ret v,m₁,σ₁):=by
 show (a m σ).bind _=_
 rw [h1]; rfl
theorem Ar:Aq m σ=some (.next,m,σ):=rfl
theorem Ca (h1:d1 m σ=some (v,σ₁)) (h2:d2 m σ₁=some (x,σ₂)) (h3:σ₂.setF x s v=some σ₃):Bj d1 d2 s m σ=some (.next,m,σ₃):=by
 unfold Bj; rw [h1,Option.bind_some,h2,Option.bind_some,h3]; rfl
theorem A7 (h1:d m σ=some (v,σ₁)):Bb s d m σ=some (.next,Bd m s v,σ₁):=by
 unfold Bb; rw [h1]; rfl
theorem B7 (h1:d m σ=some (v,σ₁)):C4 d m σ=some (.ret v,m,σ₁):=by
 unfold C4; rw [h1]; rfl
theorem Bo (h1:d m σ=some (v,σ₁)):Bw d m σ=some (.next,m,σ₁):=by
 unfold Bw; rw [h1]; rfl
theorem Ag6 (h1:bb m σ=some (t,σ₁)) (h2:(if t then a m σ₁ else b m σ₁)=r):sIf bb a b m σ=r:=by
 unfold sIf; rw [h1]; exact h2
theorem Df {α:Type} {p q r:α} (ht:t=true) (h:p=r):(if t=true then p else q)=r:=by subst ht; exact h
theorem Dj {α:Type} {p q r:α} (ht:t=false) (h:q=r):(if t=true then p else q)=r:=by subst ht; exact h
theorem Cw (h1:bb m σ=some (true,σ₁)) (h2:a m σ₁=r):sIf bb a b m σ=r:=Ag6 h1 h2
theorem Br (h1:bb m σ=some (false,σ₁)) (h2:b m σ₁=r):sIf bb a b m σ=r:=Ag6 h1 h2
theorem Dt (h1:d1 m σ=some (v1,σ₁)) (h2:d2 m σ₁=some (v2,σ₂)) (h3:d3 m σ₂=some (v3,σ₃)) (h4:σ₃.setItem v2 v3 v1=some σ₄):Fy d1 d2 d3 m σ=some (.next,m,σ₄):=by
 unfold Fy; rw [h1,Option.bind_some,h2,Option.bind_some,h3,Option.bind_some,h4]; rfl
theorem Aas {i j k:Int} (h1:d1 m σ=some (v1,σ₁)) (h2:σ₁.field v1 s=some (.int i)) (h3:d2 m σ₁=some (.int j,σ₂)) (h4:f i j=some k) (h5:σ₂.setF v1 s (.int k)=some σ₃):R6 f d1 s d2 m σ=some (.next,m,σ₃):=by
 unfold R6; rw [h1,Option.bind_some,h2,Option.bind_some,h3,Option.bind_some]
 show (f i j).bind _=_
 rw [h4,Option.bind_some,h5]; rfl
theorem An6 {i j k:Int} (h1:d1 m σ=some (v1,σ₁)) (h2:d2 m σ₁=some (v2,σ₂)) (h3:σ₂.item v1 v2=some (.int i)) (h4:d3 m σ₂=some (.int j,σ₃)) (h5:f i j=some k) (h6:σ₃.setItem v1 v2 (.int k)=some σ₄):Afn f d1 d2 d3 m σ=some (.next,m,σ₄):=by
 unfold Afn; rw [h1,Option.bind_some,h2,Option.bind_some,h3,Option.bind_some,h4,Option.bind_some]
 show (f i j).bind _=_
 rw [h5,Option.bind_some,h6]; rfl
theorem Qa (h1:bb m σ=some (true,σ₁)) (h2:a m σ₁=some (.next,m₁,σ₂)) (h3:D5 bb a n m₁ σ₂=r):D5 bb a (n + 1) m σ=r:=by
 show (bb m σ).bind _=r
 rw [h1,Option.bind_some]
 show (a m σ₁).bind _=r
 rw [h2,Option.bind_some]; exact h3
theorem Ad4 (h1:bb m σ=some (true,σ₁)) (h2:a m σ₁=some (.ret v,m₁,σ₂)):D5 bb a (n + 1) m σ=some (.ret v,m₁,σ₂):=by
 show (bb m σ).bind _=_
 rw [h1,Option.bind_some]
 show (a m σ₁).bind _=_
 rw [h2,Option.bind_some]
theorem Mb (h1:bb m σ=some (false,σ₁)):D5 bb a (n + 1) m σ=some (.next,m,σ₁):=by
 show (bb m σ).bind _=_
 rw [h1,Option.bind_some]; rfl
theorem D4 (h1:d m σ=some (v,σ₁)) (h2:Vc v T a n 0 m σ₁=r):Ey d T a n m σ=r:=by
 show (d m σ).bind _=r
 rw [h1]; exact h2
theorem Eh {i:Nat} (h1:σ.its v i=some none):Vc v T a (n + 1) i m σ=some (.next,m,σ):=by
 show (σ.its v i).bind _=_
 rw [h1]; rfl
theorem Fj {i:Nat} (h1:σ.its v i=some (some x)) (h2:T x m=some m₁) (h3:a m₁ σ=some (.next,m₂,σ₁)) (h4:Vc v T a n (i + 1) m₂ σ₁=r):Vc v T a (n + 1) i m σ=r:=by
 show (σ.its v i).bind _=_
 rw [h1,Option.bind_some]
 show (T x m).bind _=_
 rw [h2,Option.bind_some]
 show (a m₁ σ).bind _=_
 rw [h3,Option.bind_some]; exact h4
theorem U8 {i:Nat} (h1:σ.its v i=some (some x)) (h2:T x m=some m₁) (h3:a m₁ σ=some (.ret y,m₂,σ₁)):Vc v T a (n + 1) i m σ=some (.ret y,m₂,σ₁):=by
 show (σ.its v i).bind _=_
 rw [h1,Option.bind_some]
 show (T x m).bind _=_
 rw [h2,Option.bind_some]
 show (a m₁ σ).bind _=_
 rw [h3,Option.bind_some]
theorem An8 {i:Id} (h1:d m σ=some (.id i,σ₁)) (h2:σ₁.R i=some (.qdict none)):Ajw d m σ=some (.next,m,σ₁):=by
 show (d m σ).bind _=_
 rw [h1,Option.bind_some]
 show (match σ₁.R i with | some (.qdict none)=>some (AFl.next,m,σ₁) | _=>none)=_
 rw [h2]
theorem Ac (h:m.lookup s=some v):Ad s m σ=some (v,σ):=by
 unfold Ad; rw [h]; rfl
theorem Ah:An v m σ=some (v,σ):=rfl
theorem Ay (h1:d m σ=some (v,σ₁)) (h2:σ₁.field v s=some x):A1 d s m σ=some (x,σ₁):=by
 unfold A1; rw [h1,Option.bind_some,h2]; rfl
theorem Ax (h1:d1 m σ=some (v,σ₁)) (h2:d2 m σ₁=some (x,σ₂)) (h3:σ₂.item v x=some y):Bg d1 d2 m σ=some (y,σ₂):=by
 unfold Bg; rw [h1,Option.bind_some,h2,Option.bind_some,h3]; rfl
theorem Gv (h1:d1 m σ=some (v,σ₁)) (h2:d2 m σ₁=some (x,σ₂)) (h3:c σ₂ v x=some t):Kf c d1 d2 m σ=some (.bool t,σ₂):=by
 unfold Kf; rw [h1,Option.bind_some,h2,Option.bind_some,h3]; rfl
theorem A4 (h1:d1 m σ=some (v,σ₁)) (h2:d2 m σ₁=some (x,σ₂)) (h3:c σ₂ v x=some t):Bs c d1 d2 m σ=some (t,σ₂):=by
 unfold Bs; rw [h1,Option.bind_some,h2,Option.bind_some,h3]; rfl
theorem G3 (h1:d m σ=some (v,σ₁)) (h2:σ₁.truth v=some t):Cz d m σ=some (t,σ₁):=by
 unfold Cz; rw [h1,Option.bind_some,h2]; rfl
theorem Bk (h1:d m σ=some (.bool t,σ₁)):Cz d m σ=some (t,σ₁):=G3 h1 rfl
theorem F9 (h1:bb m σ=some (t,σ₁)):Gk bb m σ=some (!t,σ₁):=by
 unfold Gk; rw [h1]; rfl
theorem B2 (h1:b1 m σ=some (t,σ₁)) {q:Option (Bool×AS)} (h2:(if t=true then b2 m σ₁ else some (false,σ₁))=q):Dg b1 b2 m σ=q:=by
 unfold Dg; rw [h1]; exact h2
theorem Ku (h1:b1 m σ=some (t,σ₁)) {q:Option (Bool×AS)} (h2:(if t=true then some (true,σ₁) else b2 m σ₁)=q):bOr b1 b2 m σ=q:=by
 unfold bOr; rw [h1]; exact h2
theorem Ib:Cp t m σ=some (t,σ):=rfl
theorem Ad3 (h1:d m σ=some (v,σ₁)) (h2:σ₁.truth v=some t):Ahu d m σ=some (.bool !t,σ₁):=by
 unfold Ahu; rw [h1,Option.bind_some,h2]; rfl
theorem Oq (h1:d1 m σ=some (v,σ₁)) (h2:σ₁.truth v=some t) {q:Option (AVal×AS)} (h3:(if t=true then d2 m σ₁ else some (v,σ₁))=q):Abp d1 d2 m σ=q:=by
 unfold Abp; rw [h1,Option.bind_some,h2]; exact h3
theorem Am2 (h1:d1 m σ=some (v,σ₁)) (h2:σ₁.truth v=some t) {q:Option (AVal×AS)} (h3:(if t=true then some (v,σ₁) else d2 m σ₁)=q):dOr d1 d2 m σ=q:=by
 unfold dOr; rw [h1,Option.bind_some,h2]; exact h3
theorem Jp (h1:bb m σ=some (t,σ₁)) {q:Option (AVal×AS)} (h2:(if t=true then d1 m σ₁ else d2 m σ₁)=q):dIf bb d1 d2 m σ=q:=by
 unfold dIf; rw [h1]; exact h2
theorem H0 {i j k:Int} (h1:d1 m σ=some (.int i,σ₁)) (h2:d2 m σ₁=some (.int j,σ₂)) (h3:f i j=some k):Fv f d1 d2 m σ=some (.int k,σ₂):=by
 unfold Fv; rw [h1,Option.bind_some,h2,Option.bind_some]
 show (f i j).map _=_
 rw [h3]; rfl
theorem Au:Ap m σ=some ([],σ):=rfl
theorem Ae (h1:d m σ=some (v,σ₁)) (h2:ds m σ₁=some (vs,σ₂)):Af d ds m σ=some (v :: vs,σ₂):=by
 unfold Af; rw [h1,Option.bind_some,h2]; rfl
theorem Afk (h1:ds m σ=some (vs,σ₁)) (h2:vs.length≤1000):Mg ds m σ=some (.tup vs,σ₁):=by
 unfold Mg; rw [h1,Option.bind_some]; exact if_pos h2
theorem Cj (h1:ds m σ=some (vs,σ₁)) (h2:vs.length≤1000):Db ds m σ=some (.flist vs,σ₁):=by
 unfold Db; rw [h1,Option.bind_some]; exact if_pos h2
theorem Hc {nm:Nm} {i:Id} (h1:ds m σ=some (vs,σ₁)) (h2:vs.length≤1000) (h3:nm m σ₁=some i) (h4:σ₁.born i (.list vs)=some σ₂):Eg nm ds m σ=some (.id i,σ₂):=by
 unfold Eg; rw [h1,Option.bind_some]
 refine (if_pos h2).trans ?_
 rw [h3,Option.bind_some,h4]; rfl
theorem Afi {nm:Nm} {i:Id} (h3:nm m σ=some i) (h4:σ.born i (.qdict none)=some σ₂):T3 nm m σ=some (.id i,σ₂):=by
 unfold T3; rw [h3,Option.bind_some,h4]; rfl
theorem Aw {g:Fd} {q:Option (AVal×AS)} (h1:ds m σ=some (vs,σ₁)) (h2:g vs σ₁=q):Az g ds m σ=q:=by
 unfold Az; rw [h1]; exact h2
theorem Dv {K:String} {g:Mt} {q:Option (AVal×AS)} (h1:d m σ=some (v,σ₁)) (h2:σ₁.kindOf v=some K) (h3:ds m σ₁=some (vs,σ₂)) (h4:g σ₂ v vs=q):Ed K g d ds m σ=q:=by
 unfold Ed; rw [h1,Option.bind_some]
 refine (if_pos h2).trans ?_
 rw [h3]; exact h4
theorem U9 {C:Addr} {g:Fd} {fs:List (String×AVal)} {q:Option (AVal×AS)} (h1:d m σ=some (v,σ₁)) (h2:σ₁.inst? v=some (C,fs)) (h3:fs.lookup s=none) (h4:g [v] σ₁=q):X3 C s g d m σ=q:=by
 unfold X3; rw [h1,Option.bind_some]
 dsimp only
 rw [h2]
 exact (if_pos ⟨rfl,h3⟩).trans h4
set_option tactic.hygienic true in
noncomputable def flV:AFl→AVal
 | .ret v=>v
 | .next=>.none
theorem Am3 {ps:List String} {S:SD} {w:AVal} (hl:vs.length=ps.length) (h:S (Dc ps vs) σ=some (fl,m',σ₁)) (hw:flV fl=w):C0 ps S vs σ=some (w,σ₁):=by
 unfold C0
 rw [if_pos hl,h,← hw]; cases fl <;> rfl
theorem Ch {ps:List String} {S:SD} (hl:vs.length=ps.length) (h:S (Dc ps vs) σ=some (.next,m',σ₁)):C0 ps S vs σ=some (.none,σ₁):=Am3 hl h rfl
theorem Bv {ps:List String} {S:SD} {w:AVal} (hl:vs.length=ps.length) (h:S (Dc ps vs) σ=some (.ret w,m',σ₁)):C0 ps S vs σ=some (w,σ₁):=Am3 hl h rfl
theorem Ajs {C:Addr} {nm:List AVal→AS→Option Id} {i:Id} {g:Fd} (h1:nm vs σ=some i) (h2:σ.born i (.inst C [])=some σ₁) (h3:g (.id i :: vs) σ₁=some (.none,σ₂)):Zl C nm g vs σ=some (.id i,σ₂):=by
 unfold Zl
 rw [h1,Option.bind_some,h2,Option.bind_some,h3]; rfl
theorem D8 {dI el:D} {bt:B} {fr:List String} {q:Option (AVal×AS)} (h1:dI m σ=some (v,σ₁)) (h2:Iq v T bt el n 0 [] (Gg m fr) σ₁=q):C3 dI T bt el fr n m σ=q:=by
 unfold C3; rw [h1]; exact h2
theorem Acp {el:D} {bt:B} {i:Nat} {acc:List AVal} (h1:σ.its v i=some none):Iq v T bt el (n + 1) i acc m σ=some (.flist acc,σ):=by
 show (σ.its v i).bind _=_
 rw [h1]; rfl
theorem An7 {el:D} {bt:B} {i:Nat} {acc:List AVal} {q:Option (AVal×AS)} (h1:σ.its v i=some (some x)) (h2:T x m=some m₁) (h3:bt m₁ σ=some (true,σ₁)) (h4:el m₁ σ₁=some (y,σ₂)) (h5:Iq v T bt el n (i + 1) (acc++[y]) m₁ σ₂=q):Iq v T bt el (n + 1) i acc m σ=q:=by
 show (σ.its v i).bind _=_
 rw [h1,Option.bind_some]
 show (T x m).bind _=_
 rw [h2,Option.bind_some]
 show (bt m₁ σ).bind _=_
 rw [h3,Option.bind_some]
 show (el m₁ σ₁).bind _=_
 rw [h4,Option.bind_some]; exact h5
theorem Als {el:D} {bt:B} {i:Nat} {acc:List AVal} {q:Option (AVal×AS)} (h1:σ.its v i=some (some x)) (h2:T x m=some m₁) (h3:bt m₁ σ=some (false,σ₁)) (h5:Iq v T bt el n (i + 1) acc m₁ σ₁=q):Iq v T bt el (n + 1) i acc m σ=q:=by
 show (σ.its v i).bind _=_
 rw [h1,Option.bind_some]
 show (T x m).bind _=_
 rw [h2,Option.bind_some]
 show (bt m₁ σ).bind _=_
 rw [h3,Option.bind_some]; exact h5
theorem Jo {p q:String} (h:p=q):cEq σ (.str p) (.str q)=some true:=congrArg some (decide_eq_true h)
theorem Gu {p q:String} (h:p≠q):cEq σ (.str p) (.str q)=some false:=congrArg some (decide_eq_false h)
theorem Am1 {p q:String} (h:p≠q):cNe σ (.str p) (.str q)=some true:=by
 show (some (decide (p=q))).map _=_
 rw [decide_eq_false h]; rfl
theorem Ao3 {p q:String} (h:p=q):cNe σ (.str p) (.str q)=some false:=by
 show (some (decide (p=q))).map _=_
 rw [decide_eq_true h]; rfl
theorem Acn {p q:Int}:cEq σ (.int p) (.int q)=some (decide (p=q)):=rfl
theorem Ajq {p q:Int}:cNe σ (.int p) (.int q)=some (!decide (p=q)):=rfl
end
noncomputable def TS.s_st (t:TS) (x:String):TS:={ t with st:=x }
noncomputable def TS.s_op (t:TS) (x:AVal):TS:={ t with op:=x }
noncomputable def TS.s_wake (t:TS) (x:AVal):TS:={ t with wake:=x }
noncomputable def TS.s_late (t:TS) (x:AVal):TS:={ t with late:=x }
noncomputable def TS.s_call (t:TS) (x:AVal):TS:={ t with call:=x }
noncomputable def TS.s_rsd (t:TS) (x:AVal):TS:={ t with rsd:=x }
noncomputable def TS.s_ans (t:TS) (x:AVal):TS:={ t with ans:=x }
noncomputable def TS.s_act (t:TS) (x:AVal):TS:={ t with act:=x }
noncomputable def TS.s_pend (t:TS) (x:Int):TS:={ t with pend:=x }
noncomputable def TS.s_failed (t:TS) (x:Bool):TS:={ t with failed:=x }
theorem Cb {α:Type} (f:Nat→α) (i:Nat) (x y:α):updN (updN f i x) i y=updN f i y:=by
 funext j
 unfold updN
 split <;> rfl
theorem E0 {w:Ws} {i:Nat} {t t':TS}:(w.setT i t).setT i t'=w.setT i t':=by
 show ({ w with T:=updN (updN w.T i t) i t' }:Ws)={ w with T:=updN w.T i t' }
 rw [Cb]
section
variable {w:Ws} {i:Nat} {t:TS} (h:i < w.n) (e:w.T i=t)
include h e
theorem Fw:(toA w).field (.id (.task i)) "number" = some (.int t.num):=by subst e; exact (Eu h _).trans rfl
theorem Dw:(toA w).field (.id (.task i)) "state" = some (.str t.st):=by subst e; exact (Eu h _).trans rfl
theorem Jn {x:String}:(toA w).setF (.id (.task i)) "state" (.str x)=some (toA (w.setT i (t.s_st x))):=by subst e; exact Fl h rfl
theorem Kj:(toA w).field (.id (.task i)) "queues" = some (.id (.queues i)):=by subst e; exact (Eu h _).trans rfl
theorem Ah0:(toA w).field (.id (.task i)) "open" = some (t.op):=by subst e; exact (Eu h _).trans rfl
theorem Adz {x:AVal}:(toA w).setF (.id (.task i)) "open" x=some (toA (w.setT i (t.s_op x))):=by subst e; exact Fl h rfl
theorem T4:(toA w).field (.id (.task i)) "wake" = some (t.wake):=by subst e; exact (Eu h _).trans rfl
theorem An0 {x:AVal}:(toA w).setF (.id (.task i)) "wake" x=some (toA (w.setT i (t.s_wake x))):=by subst e; exact Fl h rfl
theorem Anz {x:AVal}:(toA w).setF (.id (.task i)) "late" x=some (toA (w.setT i (t.s_late x))):=by subst e; exact Fl h rfl
theorem Ady {x:AVal}:(toA w).setF (.id (.task i)) "call" x=some (toA (w.setT i (t.s_call x))):=by subst e; exact Fl h rfl
theorem Nl:(toA w).field (.id (.task i)) "serving" = some (.id (.serving i)):=by subst e; exact (Eu h _).trans rfl
theorem D6:(toA w).field (.id (.task i)) "masters" = some (.id (.masters i)):=by subst e; exact (Eu h _).trans rfl
theorem Ah1:(toA w).field (.id (.task i)) "raised" = some (t.rsd):=by subst e; exact (Eu h _).trans rfl
theorem Aiw {x:AVal}:(toA w).setF (.id (.task i)) "raised" x=some (toA (w.setT i (t.s_rsd x))):=by subst e; exact Fl h rfl
theorem Ahz:(toA w).field (.id (.task i)) "answer" = some (t.ans):=by subst e; exact (Eu h _).trans rfl
theorem Kt {x:AVal}:(toA w).setF (.id (.task i)) "answer" x=some (toA (w.setT i (t.s_ans x))):=by subst e; exact Fl h rfl
theorem E9:(toA w).field (.id (.task i)) "is_abnormal" = some (.bool false):=by subst e; exact (Eu h _).trans rfl
theorem Ru:(toA w).field (.id (.task i)) "activator" = some (t.act):=by subst e; exact (Eu h _).trans rfl
theorem M6 {x:AVal}:(toA w).setF (.id (.task i)) "activator" x=some (toA (w.setT i (t.s_act x))):=by subst e; exact Fl h rfl
theorem Qx:(toA w).field (.id (.task i)) "pending" = some (.int t.pend):=by subst e; exact (Eu h _).trans rfl
theorem Yk {x:Int}:(toA w).setF (.id (.task i)) "pending" (.int x)=some (toA (w.setT i (t.s_pend x))):=by subst e; exact Fl h rfl
theorem Pf:(toA w).field (.id (.task i)) "has_failed" = some (.bool t.failed):=by subst e; exact (Eu h _).trans rfl
theorem Aan {x:Bool}:(toA w).setF (.id (.task i)) "has_failed" (.bool x)=some (toA (w.setT i (t.s_failed x))):=by subst e; exact Fl h rfl
end
section
variable {w:Ws} {i:Nat} {t:TS} (h:i < w.n)
include h
theorem P8 {x:String}:(toA (w.setT i t)).setF (.id (.task i)) "state" (.str x)=some (toA (w.setT i (t.s_st x))):=by rw [Jn (w:=w.setT i t) h (Al _ _ _),E0]
theorem Afd {x:AVal}:(toA (w.setT i t)).setF (.id (.task i)) "open" x=some (toA (w.setT i (t.s_op x))):=by rw [Adz (w:=w.setT i t) h (Al _ _ _),E0]
theorem Nv {x:AVal}:(toA (w.setT i t)).setF (.id (.task i)) "wake" x=some (toA (w.setT i (t.s_wake x))):=by rw [An0 (w:=w.setT i t) h (Al _ _ _),E0]
theorem Alp {x:AVal}:(toA (w.setT i t)).setF (.id (.task i)) "late" x=some (toA (w.setT i (t.s_late x))):=by rw [Anz (w:=w.setT i t) h (Al _ _ _),E0]
theorem Ik {x:AVal}:(toA (w.setT i t)).setF (.id (.task i)) "raised" x=some (toA (w.setT i (t.s_rsd x))):=by rw [Aiw (w:=w.setT i t) h (Al _ _ _),E0]
theorem Ag4 {x:AVal}:(toA (w.setT i t)).setF (.id (.task i)) "answer" x=some (toA (w.setT i (t.s_ans x))):=by rw [Kt (w:=w.setT i t) h (Al _ _ _),E0]
theorem P7 {x:AVal}:(toA (w.setT i t)).setF (.id (.task i)) "activator" x=some (toA (w.setT i (t.s_act x))):=by rw [M6 (w:=w.setT i t) h (Al _ _ _),E0]
theorem N8 {x:Bool}:(toA (w.setT i t)).setF (.id (.task i)) "has_failed" (.bool x)=some (toA (w.setT i (t.s_failed x))):=by rw [Aan (w:=w.setT i t) h (Al _ _ _),E0]
end
end
section
structure CO where
 num:Int
 c:Nat
 t:Nat
 vals:AVal
 st:String
 found:AVal
noncomputable def cf (co:CO):List (String×AVal):=[("number",.int co.num),("caller",.id (.task co.c)),("target",.id (.task co.t)),("key",.base 542),("values",co.vals),("state",.str co.st),("deadline",.none),("is_firm",.bool false),("is_conditional",.bool false),("found",co.found)]
noncomputable abbrev D2 (co:CO):AObj:=.inst 31 (cf co)
noncomputable def MS.s_ended (m:MS) (x:Bool):MS:={ m with ended:=x }
noncomputable def MS.s_deps (m:MS) (x:List AVal):MS:={ m with deps:=x }
noncomputable def CO.s_st (co:CO) (x:String):CO:={ co with st:=x }
noncomputable def CO.s_found (co:CO) (x:AVal):CO:={ co with found:=x }
noncomputable def Ws.s_nums (w:Ws) (x:Int):Ws:={ w with nums:=x }
noncomputable def Ws.s_settled (w:Ws) (x:Int):Ws:={ w with settled:=x }
noncomputable def Ws.s_now (w:Ws) (x:Int):Ws:={ w with now:=x }
noncomputable def Ws.s_lib (w:Ws) (x:MS):Ws:={ w with lib:=x }
noncomputable def Ws.s_told (w:Ws) (x:List AVal):Ws:={ w with told:=x }
noncomputable def Ws.s_crew (w:Ws) (x:List AVal):Ws:={ w with crew:=x }
noncomputable def Ws.s_rests (w:Ws) (x:Int):Ws:={ w with rests:=x }
noncomputable def Ws.s_left (w:Ws) (x:List AVal):Ws:={ w with left:=x }
noncomputable def Ws.s_snext (w:Ws) (x:AVal):Ws:={ w with snext:=x }
noncomputable def Ws.s_shand (w:Ws) (x:AVal):Ws:={ w with shand:=x }
noncomputable def Ws.s_sdoes (w:Ws) (x:String):Ws:={ w with sdoes:=x }
noncomputable def Ws.s_sn (w:Ws) (x:Nat):Ws:={ w with sn:=x }
noncomputable def Ws.s_tn (w:Ws) (x:Nat):Ws:={ w with tn:=x }
noncomputable def Ws.s_steps (w:Ws) (x:List AVal):Ws:={ w with steps:=x }
theorem Di {w w':Ws} {i:Id} {o:AObj} (hn:w'.gn=w.gn) (h1:toR w' i=some o) (h2:∀ j,j≠i→toR w' j=toR w j):(toA w).set i o=toA w':=by
 refine Of hn.symm fun j=>?_
 show upd (toR w) i o j=_
 by_cases hj:j=i
 ·subst hj; rw [E3,h1]
 ·rw [Ga _ _ hj,h2 j hj]
theorem Al8 {w:Ws} {x:Int}:(toA w).set .tasking (.inst 496 (tkF (w.s_nums x)))=toA (w.s_nums x):=Di rfl rfl fun j hj=>by cases j <;> first | rfl | exact absurd rfl hj
theorem Aed {w:Ws} {x:Int}:(toA w).set .tasking (.inst 496 (tkF (w.s_settled x)))=toA (w.s_settled x):=Di rfl rfl fun j hj=>by cases j <;> first | rfl | exact absurd rfl hj
theorem Aof {w:Ws} {x:Int}:(toA w).set .clock (.inst 134 [("now",.int x)])=toA (w.s_now x):=Di rfl rfl fun j hj=>by cases j <;> first | rfl | exact absurd rfl hj
theorem Al9 {w:Ws} {x:List AVal}:(toA w).set .told (.list x)=toA (w.s_told x):=Di rfl rfl fun j hj=>by cases j <;> first | rfl | exact absurd rfl hj
theorem Al3 {w:Ws} {x:List AVal}:(toA w).set .crew (.list x)=toA (w.s_crew x):=Di rfl rfl fun j hj=>by cases j <;> first | rfl | exact absurd rfl hj
theorem Aj3 {w:Ws} {x:Int}:(toA w).set .mill (.sdict (Amt (w.s_rests x)))=toA (w.s_rests x):=Di rfl rfl fun j hj=>by cases j <;> first | rfl | exact absurd rfl hj
theorem Al5 {w:Ws} {x:List AVal}:(toA w).set .left (.list x)=toA (w.s_left x):=Di rfl rfl fun j hj=>by cases j <;> first | rfl | exact absurd rfl hj
theorem Aj6 {w:Ws} {x:AVal}:(toA w).set .source (.sdict (Al0 (w.s_snext x)))=toA (w.s_snext x):=Di rfl rfl fun j hj=>by cases j <;> first | rfl | exact absurd rfl hj
theorem Aj5 {w:Ws} {x:AVal}:(toA w).set .source (.sdict (Al0 (w.s_shand x)))=toA (w.s_shand x):=Di rfl rfl fun j hj=>by cases j <;> first | rfl | exact absurd rfl hj
theorem Aj4 {w:Ws} {x:String}:(toA w).set .source (.sdict (Al0 (w.s_sdoes x)))=toA (w.s_sdoes x):=Di rfl rfl fun j hj=>by cases j <;> first | rfl | exact absurd rfl hj
theorem Aj8 {w:Ws} {x:List AVal}:(toA w).set .steps (.list x)=toA (w.s_steps x):=Di rfl rfl fun j hj=>by cases j <;> first | rfl | exact absurd rfl hj
theorem Ao8 {w:Ws} {x:Nat}:(toA w).set .tasksL (.list (tl x))=toA (w.s_tn x):=Di rfl rfl fun j hj=>by cases j <;> first | rfl | exact absurd rfl hj
theorem Ao7 {w:Ws} {x:Nat}:(toA w).set .stages (.list (sl x))=toA (w.s_sn x):=Di rfl rfl fun j hj=>by cases j <;> first | rfl | exact absurd rfl hj
theorem Al7 {w:Ws} {x:Bool}:(toA w).set .lib (Z7 (w.lib.s_ended x) .none .libDeps)=toA (w.s_lib (w.lib.s_ended x)):=Di rfl rfl fun j hj=>by cases j <;> first | rfl | exact absurd rfl hj
theorem Al6 {w:Ws} {x:List AVal}:(toA w).set .libDeps (.list x)=toA (w.s_lib (w.lib.s_deps x)):=Di rfl rfl fun j hj=>by cases j <;> first | rfl | exact absurd rfl hj
section
variable {w:Ws} {i:Nat}
theorem Rj {x:Option AVal} (h:i < w.n):(toA w).set (.queues i) (.qdict x)=toA (w.setq i x):=Di rfl ((if_pos h).trans (congrArg (fun z=>some (AObj.qdict z)) (Al _ _ _))) fun j hj=>by
 cases j with
 | queues j =>
  show (if j < w.n then some (AObj.qdict (updN w.q i x j)) else none)=if j < w.n then some (AObj.qdict (w.q j)) else none
  rw [Av _ _ fun z=>hj (congrArg Id.queues z)]
 | _=>rfl
theorem Vh {x:List AVal} (h:i < w.n):(toA w).set (.serving i) (.list x)=toA (w.setsv i x):=Di rfl ((if_pos h).trans (congrArg (fun z=>some (AObj.list z)) (Al _ _ _))) fun j hj=>by
 cases j with
 | serving j =>
  show (if j < w.n then some (AObj.list (updN w.sv i x j)) else none)=if j < w.n then some (AObj.list (w.sv j)) else none
  rw [Av _ _ fun z=>hj (congrArg Id.serving z)]
 | _=>rfl
theorem Aec {x:List AVal} (h:i < w.n):(toA w).set (.masters i) (.list x)=toA (w.setms i x):=Di rfl ((if_pos h).trans (congrArg (fun z=>some (AObj.list z)) (Al _ _ _))) fun j hj=>by
 cases j with
 | masters j =>
  show (if j < w.n then some (AObj.list (updN w.ms i x j)) else none)=if j < w.n then some (AObj.list (w.ms j)) else none
  rw [Av _ _ fun z=>hj (congrArg Id.masters z)]
 | _=>rfl
theorem Aha {m:MS} {x:Bool} (e:w.M i=some m):(toA w).set (.master i) (Z7 (m.s_ended x) (.id (.task i)) (.deps i))=toA (w.setM i (m.s_ended x)):=Di rfl (by
  show (updN w.M i (some (m.s_ended x)) i).map _=_
  rw [Al]; rfl) fun j hj=>by
 cases j with
 | master j =>
  show (updN w.M i (some (m.s_ended x)) j).map _=(w.M j).map _
  rw [Av _ _ fun z=>hj (congrArg Id.master z)]
 | deps j =>
  show (updN w.M i (some (m.s_ended x)) j).map _=(w.M j).map _
  by_cases hji:j=i
  ·subst hji; rw [Al,e]; rfl
  ·rw [Av _ _ hji]
 | _=>rfl
theorem Al4 {m:MS} {x:List AVal} (e:w.M i=some m):(toA w).set (.deps i) (.list x)=toA (w.setM i (m.s_deps x)):=Di rfl (by
  show (updN w.M i (some (m.s_deps x)) i).map _=_
  rw [Al]; rfl) fun j hj=>by
 cases j with
 | deps j =>
  show (updN w.M i (some (m.s_deps x)) j).map _=(w.M j).map _
  rw [Av _ _ fun z=>hj (congrArg Id.deps z)]
 | master j =>
  show (updN w.M i (some (m.s_deps x)) j).map _=(w.M j).map _
  by_cases hji:j=i
  ·subst hji; rw [Al,e]; rfl
  ·rw [Av _ _ hji]
 | _=>rfl
noncomputable def SS.s_next (s:SS) (x:AVal):SS:={ s with next:=x }
noncomputable def SS.s_hand (s:SS) (x:AVal):SS:={ s with hand:=x }
noncomputable def SS.s_does (s:SS) (x:String):SS:={ s with does:=x }
noncomputable def SS.s_got (s:SS) (x:List AVal):SS:={ s with got:=x }
theorem Aj7 {s:SS} (h:i < w.ns) (hg:s.got=(w.S i).got):(toA w).set (.stage i) (.sdict (sF i s))=toA (w.setS i s):=Di rfl ((if_pos h).trans (congrArg (fun z=>some (AObj.sdict (sF i z))) (Al _ _ _))) fun j hj=>by
 cases j with
 | stage j =>
  show (if j < w.ns then some (AObj.sdict (sF j (updN w.S i s j))) else none)=if j < w.ns then some (AObj.sdict (sF j (w.S j))) else none
  rw [Av _ _ fun z=>hj (congrArg Id.stage z)]
 | got j =>
  show (if j < w.ns then some (AObj.list (updN w.S i s j).got) else none)=if j < w.ns then some (AObj.list (w.S j).got) else none
  by_cases hji:j=i
  ·subst hji; rw [Al,hg]
  ·rw [Av _ _ hji]
 | _=>rfl
theorem Aoe {x:List AVal} (h:i < w.ns):(toA w).set (.got i) (.list x)=toA (w.setS i ((w.S i).s_got x)):=Di rfl ((if_pos h).trans (congrArg (fun z=>some (AObj.list z.got)) (Al w.S i _))) fun j hj=>by
 cases j with
 | got j =>
  show (if j < w.ns then some (AObj.list (updN w.S i ((w.S i).s_got x) j).got) else none)=if j < w.ns then some (AObj.list (w.S j).got) else none
  rw [Av _ _ fun z=>hj (congrArg Id.got z)]
 | stage j =>
  show (if j < w.ns then some (AObj.sdict (sF j (updN w.S i ((w.S i).s_got x) j))) else none)=if j < w.ns then some (AObj.sdict (sF j (w.S j))) else none
  by_cases hji:j=i
  ·subst hji; rw [Al]; rfl
  ·rw [Av _ _ hji]
 | _=>rfl
theorem Aau {x:AObj}:(toA w).set (.tmp i) x=toA (w.setG i x):=Di rfl (Al _ _ _) fun j hj=>by
 cases j with
 | tmp j=>exact Av _ _ fun z=>hj (congrArg Id.tmp z)
 | _=>rfl
noncomputable def Ws.newG (w:Ws) (x:AObj):Ws:={ w with G:=updN w.G w.gn (some x),gn:=w.gn + 1 }
theorem O4 {x:AObj} (h:w.G w.gn=none):(toA w).born (.tmp w.gn) x=some (toA (w.newG x)):=by
 show (match toR w (.tmp w.gn) with | none=>some ((toA w).add (.tmp w.gn) x) | some _=>none)=_
 rw [show toR w (.tmp w.gn)=none from h]
 refine congrArg some (Of (show max w.gn (w.gn + 1)=w.gn + 1 by lia) fun j=>?_)
 show upd (toR w) (.tmp w.gn) x j=toR (w.newG x) j
 by_cases hj:j=.tmp w.gn
 ·subst hj; rw [E3]; exact (Al _ _ _).symm
 ·rw [Ga _ _ hj]
  cases j with
  | tmp j=>exact (Av _ _ fun z=>hj (congrArg Id.tmp z)).symm
  | _=>rfl
end
section
variable {w:Ws} {k:Nat} {co:CO} (e:w.G k=some (D2 co))
include e
theorem It (n:String):(toA w).field (.id (.tmp k)) n=(cf co).lookup n:=by
 show (match w.G k with | some (.inst _ fs)=>fs.lookup n | _=>none)=_
 rw [e]
theorem Vg {n:String} {x:AVal} {co':CO} (h:Bd (cf co) n x=cf co'):(toA w).setF (.id (.tmp k)) n x=some (toA (w.setG k (D2 co'))):=by
 show (match w.G k with | some (.inst C fs)=>if fs.length < 200 then some ((toA w).set (.tmp k) (.inst C (Bd fs n x))) else none | _=>none)=_
 rw [e]
 show (if (cf co).length < 200 then some ((toA w).set (.tmp k) (.inst 31 (Bd (cf co) n x))) else none)=_
 rw [if_pos (show (cf co).length < 200 from (by decide:10 < 200)),h,Aau]
theorem X8:(toA w).field (.id (.tmp k)) "number" = some (.int co.num):=(It e _).trans rfl
theorem Qy:(toA w).field (.id (.tmp k)) "caller" = some (.id (.task co.c)):=(It e _).trans rfl
theorem Nn:(toA w).field (.id (.tmp k)) "target" = some (.id (.task co.t)):=(It e _).trans rfl
theorem Og:(toA w).field (.id (.tmp k)) "key" = some (.base 542):=(It e _).trans rfl
theorem Agh:(toA w).field (.id (.tmp k)) "values" = some (co.vals):=(It e _).trans rfl
theorem Abu:(toA w).field (.id (.tmp k)) "deadline" = some (.none):=(It e _).trans rfl
theorem Adl:(toA w).field (.id (.tmp k)) "is_firm" = some (.bool false):=(It e _).trans rfl
theorem U3 {x:String}:(toA w).setF (.id (.tmp k)) "state" (.str x)=some (toA (w.setG k (D2 (co.s_st x)))):=Vg e rfl
theorem Aix {x:AVal}:(toA w).setF (.id (.tmp k)) "found" x=some (toA (w.setG k (D2 (co.s_found x)))):=Vg e rfl
theorem Afc:(toA w).setF (.id (.tmp k)) "is_conditional" (.bool false)=some (toA (w.setG k (D2 co))):=Vg e rfl
end
theorem Im {w w':Ws} {i:Id} {xs:List AVal} {x:AVal} (h:toR w i=some (.list xs)) (hl:xs.length < 1000000) (hs:(toA w).set i (.list (xs++[x]))=toA w'):Ck (toA w) (.id i) [x]=some (.none,toA w'):=by
 show (match toR w i with | some (.list xs)=>if xs.length < 1000000 then some (AVal.none,(toA w).set i (.list (xs++[x]))) else none | _=>none)=_
 rw [h]
 exact (if_pos hl).trans (by rw [hs])
theorem Cv {w:Ws} {i:Id} {xs:List AVal} (h:toR w i=some (.list xs)):(toA w).kindOf (.id i)=some "list" := by
 show (match toR w i with | some (.list _)=>some "list" | some (.sdict _)=>some "dict" | some (.qdict _)=>some "dict" | _=>none)=_
 rw [h]
theorem Pt {w:Ws} {i:Id} {x:Option AVal} (h:toR w i=some (.qdict x)):(toA w).kindOf (.id i)=some "dict" := by
 show (match toR w i with | some (.list _)=>some "list" | some (.sdict _)=>some "dict" | some (.qdict _)=>some "dict" | _=>none)=_
 rw [h]
theorem Lg {w:Ws} {i:Id} {xs:List AVal} (h:toR w i=some (.list xs)):(toA w).lst (.id i)=some xs:=by
 show (match toR w i with | some (.list xs)=>some xs | _=>none)=_
 rw [h]
theorem B5 {w:Ws} {i:Id} {xs:List AVal} {k:Nat} (h:toR w i=some (.list xs)):(toA w).its (.id i) k=some xs[k]?:=by
 show ((toA w).lst (.id i)).map _=_
 rw [Lg h]; rfl
theorem Vk {w:Ws} {i:Id} {xs:List AVal} (h:toR w i=some (.list xs)):(toA w).truth (.id i)=some !xs.isEmpty:=by
 show ((toA w).lst (.id i)).map _=_
 rw [Lg h]; rfl
section
variable {w:Ws} {i:Nat} {xs:List AVal} {x:AVal}
theorem Afu (h:i < w.n) (e:w.sv i=xs):toR w (.serving i)=some (.list xs):=by subst e; exact if_pos h
theorem Md (h:i < w.n) (e:w.ms i=xs):toR w (.masters i)=some (.list xs):=by subst e; exact if_pos h
theorem R_q {q:Option AVal} (h:i < w.n) (e:w.q i=q):toR w (.queues i)=some (.qdict q):=by subst e; exact if_pos h
theorem Jr {m:MS} (e:w.M i=some m):toR w (.deps i)=some (.list m.deps):=by show (w.M i).map _=_; rw [e]; rfl
theorem Ox {m:MS} (e:w.M i=some m):toR w (.master i)=some (Z7 m (.id (.task i)) (.deps i)):=by show (w.M i).map _=_; rw [e]; rfl
theorem Xy {s:SS} (h:i < w.ns) (e:w.S i=s):toR w (.got i)=some (.list s.got):=by subst e; exact if_pos h
theorem Aes {s:SS} (h:i < w.ns) (e:w.S i=s):toR w (.stage i)=some (.sdict (sF i s)):=by subst e; exact if_pos h
theorem Qm (e:w.G i=some (.list xs)):toR w (.tmp i)=some (.list xs):=e
theorem Anc (h:i < w.n) (e:w.sv i=xs) (hl:xs.length < 1000000):Ck (toA w) (.id (.serving i)) [x]=some (.none,toA (w.setsv i (xs++[x]))):=Im (Afu h e) hl (Vh h)
theorem Anb (h:i < w.n) (e:w.ms i=xs) (hl:xs.length < 1000000):Ck (toA w) (.id (.masters i)) [x]=some (.none,toA (w.setms i (xs++[x]))):=Im (Md h e) hl (Aec h)
theorem Ahk {m:MS} (e:w.M i=some m) (hl:m.deps.length < 1000000):Ck (toA w) (.id (.deps i)) [x]=some (.none,toA (w.setM i (m.s_deps (m.deps++[x])))):=Im (Jr e) hl (Al4 e)
theorem Ahl {l:MS} (e:w.lib=l) (hl:l.deps.length < 1000000):Ck (toA w) (.id .libDeps) [x]=some (.none,toA (w.s_lib (l.s_deps (l.deps++[x])))):=by subst e; exact Im rfl hl Al6
theorem Ahm (e:w.told=xs) (hl:xs.length < 1000000):Ck (toA w) (.id .told) [x]=some (.none,toA (w.s_told (xs++[x]))):=by subst e; exact Im rfl hl Al9
theorem Oz (e:w.crew=xs) (hl:xs.length < 1000000):Ck (toA w) (.id .crew) [x]=some (.none,toA (w.s_crew (xs++[x]))):=by subst e; exact Im rfl hl Al3
theorem Af2 (e:w.steps=xs) (hl:xs.length < 1000000):Ck (toA w) (.id .steps) [x]=some (.none,toA (w.s_steps (xs++[x]))):=by subst e; exact Im rfl hl Aj8
theorem Akt {s:SS} (h:i < w.ns) (e:w.S i=s) (hl:s.got.length < 1000000):Ck (toA w) (.id (.got i)) [x]=some (.none,toA (w.setS i (s.s_got (s.got++[x])))):=by subst e; exact Im (Xy h rfl) hl (Aoe h)
theorem Aku (e:w.G i=some (.list xs)) (hl:xs.length < 1000000):Ck (toA w) (.id (.tmp i)) [x]=some (.none,toA (w.setG i (.list (xs++[x])))):=Im e hl Aau
theorem Afp (n:Nat):tl n++[.id (.task n)]=tl (n + 1):=by unfold tl; rw [List.range_succ,List.map_append]; rfl
theorem Alz (n:Nat):sl n++[.id (.stage n)]=sl (n + 1):=by unfold sl; rw [List.range_succ,List.map_append]; rfl
theorem E1 (n:Nat):(tl n).length=n:=by unfold tl; rw [List.length_map,List.length_range]
theorem Vf (n:Nat):(sl n).length=n:=by unfold sl; rw [List.length_map,List.length_range]
theorem Aax {n k:Nat} (h:k < n):(tl n)[k]?=some (.id (.task k)):=by unfold tl; rw [List.getElem?_map,List.getElem?_range h]; rfl
theorem Aoc {n k:Nat} (h:k < n):(sl n)[k]?=some (.id (.stage k)):=by unfold sl; rw [List.getElem?_map,List.getElem?_range h]; rfl
theorem Af3 (hl:w.tn < 1000000):Ck (toA w) (.id .tasksL) [.id (.task w.tn)]=some (.none,toA (w.s_tn (w.tn + 1))):=Im rfl (by rw [E1]; exact hl) (by rw [Afp]; exact Ao8)
theorem Ac9 (hl:w.sn < 1000000):Ck (toA w) (.id .stages) [.id (.stage w.sn)]=some (.none,toA (w.s_sn (w.sn + 1))):=Im rfl (by rw [Vf]; exact hl) (by rw [Alz]; exact Ao7)
theorem An2 (h:i < w.n) (e:w.sv i=[x]):Adt (toA w) (.id (.serving i)) []=some (x,toA (w.setsv i [])):=by
 show (match toR w (.serving i) with | some (.list xs)=>(xs.getLast?).map fun x=>(x,(toA w).set (.serving i) (.list xs.dropLast)) | _=>none)=_
 rw [Afu h e]
 show some (x,(toA w).set (.serving i) (.list []))=_
 rw [Vh h]
theorem Ajo (e:w.left=x :: xs):Adt (toA w) (.id .left) [.int 0]=some (x,toA (w.s_left xs)):=by
 show (match some (AObj.list w.left) with | some (.list (x :: xs))=>some (x,(toA w).set .left (.list xs)) | _=>none)=_
 rw [e]
 show some (x,(toA w).set .left (.list xs))=_
 rw [Al5]
theorem Alj {q:Option AVal} (h:i < w.n) (e:w.q i=q):Ty (toA w) (.base 542) (.id (.queues i))=some !q.isSome:=by
 show ((toA w).ain (.base 542) (.id (.queues i))).map _=_
 show ((match toR w (.queues i) with | some (.qdict q)=>some q.isSome | _=>none).map fun r=>!r)=_
 rw [R_q h e]; rfl
theorem Aob (h:i < w.n) (y:AVal):(toA w).setItem (.id (.queues i)) (.base 542) y=some (toA (w.setq i (some y))):=by
 show (match toR w (.queues i) with | some (.qdict _)=>some ((toA w).set (.queues i) (.qdict (some y))) | _=>none)=_
 rw [R_q h rfl]
 show some ((toA w).set (.queues i) (.qdict (some y)))=_
 rw [Rj h]
theorem Anr (h:i < w.n) (e:w.q i=some x):(toA w).item (.id (.queues i)) (.base 542)=some x:=by
 show (match toR w (.queues i) with | some (.qdict q)=>q | _=>none)=_
 rw [R_q h e]
theorem Ah2 {q:Option AVal} (h:i < w.n) (e:w.q i=q):Aig (toA w) (.id (.queues i)) [.base 542,x]=some (q.getD x,toA w):=by
 show (match toR w (.queues i) with | some (.qdict q)=>some (q.getD x,toA w) | _=>none)=_
 rw [R_q h e]
theorem An3 {y:AVal} (h:i < w.n) (e:w.q i=some y):Ae9 (toA w) (.id (.queues i)) [.base 542,x]=some (y,toA (w.setq i none)):=by
 show (match toR w (.queues i) with | some (.qdict none)=>some (x,toA w) | some (.qdict (some y))=>some (y,(toA w).set (.queues i) (.qdict none)) | _=>none)=_
 rw [R_q h e]
 show some (y,(toA w).set (.queues i) (.qdict none))=_
 rw [Rj h]
theorem Ak1 (h:i < w.n) (e:w.q i=none):Z6 (toA w) (.id (.queues i)) []=some (.none,toA w):=by
 show (match toR w (.queues i) with | some (.qdict none)=>some (AVal.none,(toA w).set (.queues i) (.qdict none)) | _=>none)=_
 rw [R_q h e]
 show some (AVal.none,(toA w).set (.queues i) (.qdict none))=_
 rw [Rj h]
 refine congrArg (fun z=>some (AVal.none,toA z)) ?_
 show ({ w with q:=updN w.q i none }:Ws)=w
 have:updN w.q i none=w.q:=funext fun j=>by
  unfold updN
  (set_option tactic.hygienic true in split)
  ·rename_i z; subst z; exact e.symm
  ·rfl
 rw [this]
 cases w; rfl
end
section
variable {w:Ws} {i:Nat} {m:MS} (e:w.M i=some m)
include e
theorem Abw:(toA w).field (.id (.master i)) "owner" = some (.id (.task i)):=by
 show (match toR w (.master i) with | some (.inst _ fs)=>fs.lookup "owner" | _=>none)=_
 rw [Ox e]; rfl
theorem Je:(toA w).field (.id (.master i)) "dependents" = some (.id (.deps i)):=by
 show (match toR w (.master i) with | some (.inst _ fs)=>fs.lookup "dependents" | _=>none)=_
 rw [Ox e]; rfl
theorem Ah3:(toA w).field (.id (.master i)) "is_ended" = some (.bool m.ended):=by
 show (match toR w (.master i) with | some (.inst _ fs)=>fs.lookup "is_ended" | _=>none)=_
 rw [Ox e]; rfl
theorem Ajn {x:Bool}:(toA w).setF (.id (.master i)) "is_ended" (.bool x)=some (toA (w.setM i (m.s_ended x))):=by
 show (match toR w (.master i) with | some (.inst C fs)=>if fs.length < 200 then some ((toA w).set (.master i) (.inst C (Bd fs "is_ended" (.bool x)))) else none | _=>none)=_
 rw [Ox e]
 show some ((toA w).set (.master i) (Z7 (m.s_ended x) (.id (.task i)) (.deps i)))=_
 rw [Aha e]
end
section
variable {w:Ws} {x:Bool} {k:Int}
theorem Aiz:(toA w).setF (.id .lib) "is_ended" (.bool x)=some (toA (w.s_lib (w.lib.s_ended x))):=congrArg some (Al7 (w:=w) (x:=x))
theorem Ad1:(toA w).setF (.id .tasking) "numbers" (.int k)=some (toA (w.s_nums k)):=congrArg some (Al8 (w:=w) (x:=k))
theorem Ad2:(toA w).setF (.id .tasking) "settled" (.int k)=some (toA (w.s_settled k)):=congrArg some (Aed (w:=w) (x:=k))
theorem Alq:(toA w).setF (.id .tasking) "lost" (.flist [])=some (toA w):=congrArg some (Di (w':=w) rfl rfl fun J J=>rfl)
theorem An1:(toA w).setF (.id .clock) "now" (.int k)=some (toA (w.s_now k)):=congrArg some (Aof (w:=w) (x:=k))
theorem Alo:(toA w).setItem (.id .mill) (.str "rests") (.int k)=some (toA (w.s_rests k)):=congrArg some (Aj3 (w:=w) (x:=k))
theorem Td {x:AVal}:(toA w).setItem (.id .source) (.str "next") x=some (toA (w.s_snext x)):=congrArg some (Aj6 (w:=w) (x:=x))
theorem Aao {x:AVal}:(toA w).setItem (.id .source) (.str "hand") x=some (toA (w.s_shand x)):=congrArg some (Aj5 (w:=w) (x:=x))
theorem Tc {x:String}:(toA w).setItem (.id .source) (.str "does") (.str x)=some (toA (w.s_sdoes x)):=congrArg some (Aj4 (w:=w) (x:=x))
end
section
variable {w:Ws} {i:Nat} {s:SS} (h:i < w.ns) (e:w.S i=s)
include h e
theorem Pr {n:String}:(toA w).item (.id (.stage i)) (.str n)=(sF i s).lookup n:=by
 show (match toR w (.stage i) with | some (.sdict es)=>es.lookup n | _=>none)=_
 rw [Aes h e]
theorem T5:(toA w).item (.id (.stage i)) (.str "got")=some (.id (.got i)):=(Pr h e).trans rfl
theorem Lc:(toA w).item (.id (.stage i)) (.str "next")=some s.next:=(Pr h e).trans rfl
theorem Ak9:(toA w).item (.id (.stage i)) (.str "hand")=some s.hand:=(Pr h e).trans rfl
theorem No:(toA w).item (.id (.stage i)) (.str "does")=some (.str s.does):=(Pr h e).trans rfl
theorem Rk {n:String} {x:AVal} {s':SS} (hs:Bd (sF i s) n x=sF i s') (hg:s'.got=s.got):(toA w).setItem (.id (.stage i)) (.str n) x=some (toA (w.setS i s')):=by
 show (match toR w (.stage i) with | some (.sdict es)=>if es.length < 1000 then some ((toA w).set (.stage i) (.sdict (Bd es n x))) else none | _=>none)=_
 rw [Aes h e]
 show some ((toA w).set (.stage i) (.sdict (Bd (sF i s) n x)))=_
 rw [hs,Aj7 h (by rw [hg,e])]
theorem Te {x:AVal}:(toA w).setItem (.id (.stage i)) (.str "next") x=some (toA (w.setS i (s.s_next x))):=Rk h e rfl rfl
theorem Aaq {x:AVal}:(toA w).setItem (.id (.stage i)) (.str "hand") x=some (toA (w.setS i (s.s_hand x))):=Rk h e rfl rfl
theorem Ll {x:String}:(toA w).setItem (.id (.stage i)) (.str "does") (.str x)=some (toA (w.setS i (s.s_does x))):=Rk h e rfl rfl
end
end
section
noncomputable def TS.woken (t:TS) (a r:AVal):TS:={ t with st := "ready",op:=.flist [],wake:=.none,late:=.none,ans:=a,rsd:=r }
theorem Ag9 {w:Ws} {k:Nat} {x y:AObj}:(w.setG k x).setG k y=w.setG k y:=by
 show ({ w with G:=updN (updN w.G k (some x)) k (some y) }:Ws)={ w with G:=updN w.G k (some y) }
 rw [Cb]
section
variable {w:Ws} {k:Nat} {co:CO}
theorem Ag5 {x:AVal}:(toA (w.setG k (D2 co))).setF (.id (.tmp k)) "found" x=some (toA (w.setG k (D2 (co.s_found x)))):=by rw [Aix (w:=w.setG k (D2 co)) (Al _ _ _),Ag9]
end
theorem Rp {w:Ws} {i:Nat} {t:TS} (h:i < w.n) (e:w.T i=t) {a r:AVal}:Gc [.id (.task i),a,r] (toA w)=some (.none,toA (w.setT i (t.woken a r))):=by
 apply Ch rfl
 unfold Rh
 repeat' (first
      | exact Ar
      | with_reducible apply Ak
      | with_reducible apply Ca
      | with_reducible apply Cj
      | ((with_reducible apply Ac); · exact rfl)
      | with_reducible exact Ah
      | with_reducible exact Au
      | with_reducible apply Jn
      | with_reducible apply Afd
      | with_reducible apply Nv
      | with_reducible apply Alp
      | with_reducible apply Ik
      | with_reducible apply Ag4
      | assumption
      | exact Nat.le_of_ble_eq_true rfl)
theorem Vz {w:Ws} {i:Nat} {t:TS} (h:i < w.n) {a r:AVal}:Gc [.id (.task i),a,r] (toA (w.setT i t))=some (.none,toA (w.setT i (t.woken a r))):=by
 rw [Rp (w:=w.setT i t) h (Al _ _ _),E0]
noncomputable def U2 (co:CO):CO:={ co with st := "over",found:=.tup [.tup [.str "called"],.none] }
theorem Xh {w:Ws} {k:Nat} {co:CO} {t:TS} (hk:w.G k=some (D2 co)) (hc:co.c < w.n) (e:w.T co.c=t) :
  Jt [.id (.tmp k),.none] (toA w)=some (.none,toA ((w.setG k (D2 (U2 co))).setT co.c ((t.s_call .none).woken (.tup [.str "called"]) .none))):=by
 apply Ch rfl
 unfold J2
 repeat' (first
      | exact Vz (by assumption)
      | exact Ar
      | with_reducible apply Ak
      | with_reducible apply Ca
      | with_reducible apply Bo
      | with_reducible apply Ae
      | with_reducible apply Ay
      | with_reducible apply Afk
      | with_reducible apply Aw
      | ((with_reducible apply Ac); · exact rfl)
      | with_reducible exact Ah
      | with_reducible exact Au
      | with_reducible apply Ady
      | with_reducible apply Ag5
      | with_reducible apply U3
      | with_reducible apply Qy
      | assumption
      | exact Al _ _ _
      | exact Nat.le_of_ble_eq_true rfl)
noncomputable def Nx (co:CO):CO:={ co with st := "served" }
theorem Mc {w:Ws} {i k:Nat} {co:CO} {tc t:TS} {x:AVal} (hk:w.G k=some (D2 co)) (hc:co.c < w.n) (hi:i < w.n) (ec:w.T co.c=tc) (ei:w.T i=t) (hne:i≠co.c) (es:w.sv i=[]) :
  F1 [.id (.task i),x,.id (.tmp k)] (toA w)=some (.none,toA ((((w.setG k (D2 (Nx co))).setT co.c ((tc.s_st "meeting").s_wake .none)).setsv i [.id (.tmp k)]).setT i (t.woken (.tup [.str "accept",x,.id (.tmp k)]) .none))):=by
 apply Ch rfl
 unfold Hu
 repeat' (first
      | exact Rp (by assumption) ((Av _ _ hne).trans ei)
      | exact Cv (Afu hi es)
      | exact Ar
      | with_reducible apply Ak
      | with_reducible apply Ca
      | with_reducible apply Bo
      | with_reducible apply Ae
      | with_reducible apply Ay
      | with_reducible apply Dv
      | ((with_reducible apply Ac); · exact rfl)
      | with_reducible exact Ah
      | with_reducible exact Au
      | with_reducible apply Jn
      | with_reducible apply Nv
      | with_reducible apply Nl
      | with_reducible apply U3
      | with_reducible apply Qy
      | with_reducible apply Anc
      | assumption
      | exact Al _ _ _
      | exact Nat.le_of_ble_eq_true rfl
      | exact rfl)
end
section
theorem An5 {σ:AS} {p:Int}:cNe σ (.int p) (.int p)=some false:=by
 show (some (decide (p=p))).map _=_
 rw [decide_eq_true rfl]; rfl
theorem Xg {w:Ws} {i k:Nat} {co:CO} {t:TS} (hi:i < w.n) (es:w.sv i=[.id (.tmp k)]) (hk:w.G k=some (D2 co)) (hc:co.c < w.n) (e:w.T co.c=t) :
  G7 [.id (.task i),.none] (toA w)=some (.none,toA (((w.setsv i []).setG k (D2 (U2 co))).setT co.c ((t.s_call .none).woken (.tup [.str "called"]) .none))):=by
 apply Ch rfl
 unfold J1
 repeat' (first
      | exact Cv (Afu hi es)
      | exact An2 hi es
      | exact Xh (w:=w.setsv i []) hk hc e
      | with_reducible apply Nl (i:=i)
      | exact Ar
      | with_reducible apply Ak
      | with_reducible apply A7
      | with_reducible apply Bo
      | with_reducible apply Ay
      | with_reducible apply Dv
      | ((with_reducible apply Ac); · exact rfl)
      | with_reducible exact Au
      | assumption
      | exact rfl)
noncomputable def Me:AVal:=.flist [.tup [.int 0,.str "accept",.base 542],.tup [.int 1,.str "terminate",.none]]
theorem Xw {w:Ws} {i:Nat} {t:TS} (hi:i < w.n) (ei:w.T i=t) (hs:t.st = "accepting") (ho:t.op=Me):H7 [.id (.task i),.base 542] (toA w)=some (.int 0,toA w):=by
 apply Bv rfl
 unfold Ii
 apply Ak
 ·repeat' (first
      | exact Ar
      | with_reducible apply Ag6
      | with_reducible apply Ay
      | with_reducible apply A4
      | ((with_reducible apply Ac); · exact rfl)
      | with_reducible exact Ah
      | with_reducible apply Dw
      | ((with_reducible apply Ao3); · first | assumption | exact rfl)
      | assumption)
 apply A8
 apply D4
 ·with_reducible apply Ay
  ·exact Ac rfl
  ·exact (Ah0 hi ei).trans (congrArg some ho)
 apply U8
 ·exact rfl
 ·exact rfl
 apply A8
 apply Cw
 ·repeat' (first
      | with_reducible apply A4
      | with_reducible apply B2
      | ((with_reducible apply Df); · exact rfl)
      | ((with_reducible apply Ac); · exact rfl)
      | with_reducible exact Ah
      | with_reducible exact Ib
      | ((with_reducible apply Jo); · first | assumption | exact rfl)
      | exact rfl)
 exact A8 (B7 (Ac rfl))
theorem Xv {w:Ws} {i:Nat} {t:TS} (hi:i < w.n) (ei:w.T i=t) (hs:t.st ≠ "accepting"):H7 [.id (.task i),.base 542] (toA w)=some (.none,toA w):=by
 apply Bv rfl
 unfold Ii
 apply A8
 apply Cw
 ·repeat' (first
      | with_reducible apply Ay
      | with_reducible apply A4
      | ((with_reducible apply Ac); · exact rfl)
      | with_reducible exact Ah
      | with_reducible apply Dw
      | ((with_reducible apply Am1); · first | assumption | decide | (simp only [*]; decide))
      | assumption)
 exact A8 (B7 Ah)
section
variable {w:Ws} {k:Nat} {co:CO} (hk:w.G k=some (D2 co))
include hk
theorem Akm {tc t:TS} (hc:co.c < w.n) (hi:co.t < w.n) (ec:w.T co.c=tc) (ei:w.T co.t=t) (hne:co.t≠co.c) (es:w.sv co.t=[]) (hs:t.st = "accepting") (ho:t.op=Me) :
  H6 [.id (.tmp k)] (toA w)=some (.bool true,toA ((((w.setG k (D2 (Nx co))).setT co.c ((tc.s_st "meeting").s_wake .none)).setsv co.t [.id (.tmp k)]).setT co.t (t.woken (.tup [.str "accept",.int 0,.id (.tmp k)]) .none))):=by
 apply Bv rfl
 unfold Ih
 apply Ak
 ·repeat' (first
      | exact Xw hi ei hs ho
      | with_reducible apply A7
      | with_reducible apply Ae
      | with_reducible apply Ay
      | with_reducible apply Aw
      | ((with_reducible apply Ac); · exact rfl)
      | with_reducible exact Au
      | with_reducible apply Nn
      | with_reducible apply Og
      | assumption)
 apply Ak
 ·repeat' (first
      | exact Ar)
 apply Ak
 ·repeat' (first
      | exact Mc hk hc hi ec ei hne es
      | with_reducible apply Bo
      | with_reducible apply Ae
      | with_reducible apply Ay
      | with_reducible apply Aw
      | ((with_reducible apply Ac); · exact rfl)
      | with_reducible exact Au
      | with_reducible apply Nn
      | assumption)
 exact A8 (B7 Ah)
theorem Akl {t:TS} (hi:co.t < w.n) (ei:w.T co.t=t) (hs:t.st ≠ "accepting"):H6 [.id (.tmp k)] (toA w)=some (.bool false,toA w):=by
 apply Bv rfl
 unfold Ih
 apply Ak
 ·repeat' (first
      | exact Xv hi ei hs
      | with_reducible apply A7
      | with_reducible apply Ae
      | with_reducible apply Ay
      | with_reducible apply Aw
      | ((with_reducible apply Ac); · exact rfl)
      | with_reducible exact Au
      | with_reducible apply Nn
      | with_reducible apply Og
      | assumption)
 apply A8
 apply Cw
 ·repeat' (first
      | with_reducible apply A4
      | ((with_reducible apply Ac); · exact rfl)
      | with_reducible exact Ah
      | exact rfl)
 exact A8 (B7 Ah)
noncomputable def Tf (co:CO):CO:={ co with st := "queued" }
theorem Aa2 {i:Nat} (hi:i < w.n) (hq:w.q i=none) (hG:w.G w.gn=none) :
  H5 [.id (.queues i),.id (.tmp k)] (toA w)=some (.none,toA (((w.newG (.list [.id (.tmp k)])).setq i (some (.id (.tmp w.gn)))).setG k (D2 (Tf co)))):=by
 have hne:k≠w.gn:=fun z=>by rw [z,hG] at hk; cases hk
 have raw:H5 [.id (.queues i),.id (.tmp k)] (toA w)=some (.none,toA ((((w.newG (.list [])).setq i (some (.id (.tmp w.gn)))).setG w.gn (.list [.id (.tmp k)])).setG k (D2 (Tf co)))):=by
  apply Ch rfl
  unfold Lq
  have k1:((w.newG (.list [])).setq i (some (.id (.tmp w.gn)))).G k=some (D2 co):=(Av _ _ hne).trans hk
  have k2:(((w.newG (.list [])).setq i (some (.id (.tmp w.gn)))).setG w.gn (.list [.id (.tmp k)])).G k=some (D2 co):=(Av _ _ hne).trans k1
  have g1:((w.newG (.list [])).setq i (some (.id (.tmp w.gn)))).G w.gn=some (.list []):=Al _ _ _
  have q1:((w.newG (.list [])).setq i (some (.id (.tmp w.gn)))).q i=some (.id (.tmp w.gn)):=Al _ _ _
  apply Ak
  ·apply Cw
   ·exact A4 (Ay (Ac rfl) (Og hk)) (Ac rfl) (Alj hi hq)
   apply Ak
   ·apply Dt
    ·apply Hc Au
     ·exact Nat.zero_le _
     ·exact rfl
     ·exact O4 hG
    ·exact Ac rfl
    ·exact Ay (Ac rfl) (Og (w:=w.newG (.list [])) ((Av _ _ hne).trans hk))
    ·exact Aob (w:=w.newG (.list [])) hi _
   exact Ar
  apply Ak
  ·apply Bo
   apply Dv
   ·exact Ax (Ac rfl) (Ay (Ac rfl) (Og k1)) (Anr hi q1)
   ·exact Cv g1
   ·exact Ae (Ac rfl) Au
   ·exact Aku g1 (by decide)
  apply Ak
  ·exact Ca Ah (Ac rfl) (U3 k2)
  exact Ar
 rw [raw]
 refine congrArg (fun z=>some (AVal.none,toA z)) ?_
 refine congrArg (fun z=>Ws.setG z k (D2 (Tf co))) ?_
 show ({ w with G:=updN (updN w.G w.gn (some (.list []))) w.gn (some (.list [.id (.tmp k)])),gn:=w.gn + 1,q:=updN w.q i (some (.id (.tmp w.gn))) }:Ws)={ w with G:=updN w.G w.gn (some (.list [.id (.tmp k)])),gn:=w.gn + 1,q:=updN w.q i (some (.id (.tmp w.gn))) }
 rw [Cb]
theorem S2 {tc:TS} (hi:co.t < w.n) (hc:co.c < w.n) (ec:w.T co.c=tc) (hq:w.q co.t=none) (hG:w.G w.gn=none) :
  Hr [.id (.tmp k)] (toA w)=some (.none,toA ((((w.newG (.list [.id (.tmp k)])).setq co.t (some (.id (.tmp w.gn)))).setG k (D2 (Tf co))).setT co.c ((tc.s_st "calling").s_wake .none))):=by
 apply Ch rfl
 unfold Hx
 repeat' (first
      | exact Aa2 hk hi hq hG
      | with_reducible apply Kj (i:=co.t) hi rfl
      | exact Ar
      | with_reducible apply Ak
      | with_reducible apply Ca
      | with_reducible apply Bo
      | with_reducible apply Ae
      | with_reducible apply Ay
      | with_reducible apply G3
      | with_reducible apply Jp
      | with_reducible apply Aw
      | ((with_reducible apply Dj); · exact rfl)
      | ((with_reducible apply Ac); · exact rfl)
      | with_reducible exact Ah
      | with_reducible exact Au
      | with_reducible apply Jn
      | with_reducible apply Nv
      | with_reducible apply Qy
      | with_reducible apply Nn
      | with_reducible apply Abu
      | with_reducible apply Adl
      | assumption
      | exact Al _ _ _
      | exact rfl)
end
theorem Qj {w:Ws} {i:Nat} (hi:i < w.n):Gq [.id (.task i)] (toA w)=some (.bool false,toA w):=by
 apply Bv rfl
 unfold Lw
 apply A8
 apply Cw
 ·repeat' (first
      | exact E9 hi rfl
      | with_reducible apply Ay
      | with_reducible apply G3
      | with_reducible apply F9
      | with_reducible apply Ku
      | ((with_reducible apply Df); · exact rfl)
      | ((with_reducible apply Ac); · exact rfl)
      | exact rfl)
 exact A8 (B7 Ah)
theorem Vo {w:Ws} {i:Nat} {t:TS} (hi:i < w.n) (ei:w.T i=t) (h1:t.st ≠ "completed") (h2:t.st ≠ "done"):Ju [.id (.task i)] (toA w)=some (.bool true,toA w):=by
 apply Bv rfl
 unfold J3
 apply A8
 apply B7
 repeat' (first
      | with_reducible apply Ay
      | with_reducible apply Gv
      | with_reducible apply Ad3
      | with_reducible apply Oq
      | ((with_reducible apply Df); · exact rfl)
      | ((with_reducible apply Ac); · exact rfl)
      | with_reducible exact Ah
      | with_reducible apply Dw
      | with_reducible apply E9
      | ((with_reducible apply Am1); · first | assumption | decide | (simp only [*]; decide))
      | assumption
      | exact rfl)
theorem Vx {w:Ws}:Dx [.id .tasking] (toA w)=some (.int (w.nums + 1),toA (w.s_nums (w.nums + 1))):=by
 apply Bv rfl
 unfold Fb
 apply Ak
 ·exact Aas (Ac rfl) rfl Ah rfl Ad1
 exact A8 (B7 (Ay (Ac rfl) rfl))
theorem Al1 {w:Ws} {k:Nat} {C:Addr} {fs:List (String×AVal)} {n:String} {x:AVal} (e:w.G k=some (.inst C fs)) (h:fs.length < 200):(toA w).setF (.id (.tmp k)) n x=some (toA (w.setG k (.inst C (Bd fs n x)))):=by
 show (match w.G k with | some (.inst C fs)=>if fs.length < 200 then some ((toA w).set (.tmp k) (.inst C (Bd fs n x))) else none | _=>none)=_
 rw [e]
 refine (if_pos h).trans ?_
 rw [Aau]
theorem Aii {w:Ws} {fs:List (String×AVal)} {n:String} {x:AVal} (h:fs.length < 200):(toA (w.newG (.inst 31 fs))).setF (.id (.tmp w.gn)) n x=some (toA (w.newG (.inst 31 (Bd fs n x)))):=by
 rw [Al1 (w:=w.newG (.inst 31 fs)) (Al _ _ _) h]
 refine congrArg (fun z=>some (toA z)) ?_
 show ({ w with G:=updN (updN w.G w.gn (some (.inst 31 fs))) w.gn (some (.inst 31 (Bd fs n x))),gn:=w.gn + 1 }:Ws)={ w with G:=updN w.G w.gn (some (.inst 31 (Bd fs n x))),gn:=w.gn + 1 }
 rw [Cb]
theorem R9 {w:Ws} {num:Int} {c t:Nat} {vals:AVal} (hG:w.G w.gn=none) :
  Mn [.int num,.id (.task c),.id (.task t),.base 542,vals] (toA w)=some (.id (.tmp w.gn),toA (w.newG (D2 ⟨num,c,t,vals, "made",.none⟩))):=by
 refine Ajs (σ₁:=toA (w.newG (.inst 31 []))) rfl (O4 hG) ?_
 apply Ch rfl
 unfold G4
 repeat' (first
      | with_reducible apply Aii
      | exact Nat.lt_of_lt_of_le (show _ < 11 by decide) (by decide)
      | exact Ar
      | with_reducible apply Ak
      | with_reducible apply Ca
      | ((with_reducible apply Ac); · exact rfl)
      | with_reducible exact Ah
      | exact Nat.le_of_ble_eq_true rfl)
end
section
theorem Am8 {α:Type} {f:Nat→α} {a b:Nat} {x y z:α}:updN (updN (updN f a x) b y) a z=updN (updN f b y) a z:=by
 funext j
 unfold updN
 by_cases h:j=a
 ·rw [if_pos h,if_pos h]
 ·rw [if_neg h,if_neg h,if_neg h]
theorem Amb {α:Type} {f:Nat→α} {i:Nat} {x:α} (h:f i=x):updN f i x=f:=funext fun j=>by
 unfold updN
 (set_option tactic.hygienic true in split)
 ·rename_i z; subst z; exact h.symm
 ·rfl
theorem Ake {a b:Ws} (hT:a.T=b.T) (hG:a.G=b.G) (hr:({ a with T:=b.T,G:=b.G }:Ws)=b):a=b:=by
 rw [← hr,← hT,← hG]
 cases a; rfl
theorem L3 {v:AVal} {a b:Ws} (h:a=b):some (v,toA a)=some (v,toA b):=by rw [h]
noncomputable def TS.calls (tc:TS) (k:Nat) (s:String):TS:={ tc with ans:=.none,rsd:=.none,call:=.id (.tmp k),st:=s,wake:=.none }
noncomputable def Ws.callA (w:Ws) (c t:Nat) (tc tt:TS) (vals:AVal):Ws:={ w with
 T:=updN (updN w.T c (tc.calls w.gn "meeting")) t (tt.woken (.tup [.str "accept",.int 0,.id (.tmp w.gn)]) .none)
 sv:=updN w.sv t [.id (.tmp w.gn)]
 nums:=w.nums + 1
 G:=updN w.G w.gn (some (D2 ⟨w.nums + 1,c,t,vals, "served",.none⟩))
 gn:=w.gn + 1 }
noncomputable def Ws.callB (w:Ws) (c t:Nat) (tc:TS) (vals:AVal):Ws:={ w with
 T:=updN w.T c (tc.calls w.gn "calling")
 q:=updN w.q t (some (.id (.tmp (w.gn + 1))))
 nums:=w.nums + 1
 G:=updN (updN w.G (w.gn + 1) (some (.list [.id (.tmp w.gn)]))) w.gn (some (D2 ⟨w.nums + 1,c,t,vals, "queued",.none⟩))
 gn:=w.gn + 2 }
section
variable {w:Ws} {c t:Nat} {tc tt:TS} {vals:AVal} (hc:c < w.n) (ht:t < w.n) (hne:t≠c) (ec:w.T c=tc) (et:w.T t=tt) (h1:tt.st ≠ "completed") (h2:tt.st ≠ "done") (hG:w.G w.gn=none)
include hc ht hne ec et h1 h2 hG
theorem Acx (es:w.sv t=[]) (hs:tt.st = "accepting") (ho:tt.op=Me):H3 [.id .tasking,.id (.task c),.id (.task t),.base 542,vals,.none] (toA w)=some (.none,toA (w.callA c t tc tt vals)):=by
 refine Eq.trans (b:=some (.none,toA (((((((((w.setT c ((tc.s_ans .none).s_rsd .none)).s_nums (w.nums + 1)).newG (D2 ⟨w.nums + 1,c,t,vals, "made",.none⟩)).setT c (((tc.s_ans .none).s_rsd .none).s_call (.id (.tmp w.gn)))).setG w.gn (D2 ⟨w.nums + 1,c,t,vals, "made",.none⟩)).setG w.gn (D2 ⟨w.nums + 1,c,t,vals, "served",.none⟩)).setT c (((((tc.s_ans .none).s_rsd .none).s_call (.id (.tmp w.gn))).s_st "meeting").s_wake .none)).setsv t [.id (.tmp w.gn)]).setT t (tt.woken (.tup [.str "accept",.int 0,.id (.tmp w.gn)]) .none)))) ?_ (L3 (Ake ?_ ?_ (by kernel_rfl)))
 ·apply Bv rfl
  unfold Ic
  apply Ak
  ·repeat' (first
      | with_reducible apply Ca
      | ((with_reducible apply Ac); · exact rfl)
      | with_reducible exact Ah
      | with_reducible apply Kt
      | assumption)
  apply Ak
  ·repeat' (first
      | with_reducible apply Ca
      | ((with_reducible apply Ac); · exact rfl)
      | with_reducible exact Ah
      | with_reducible apply Ik
      | assumption)
  apply Ak
  ·apply Br
   ·apply G3
    ·exact Aw (Ae (Ac rfl) Au) (Qj (w:=w.setT c ((tc.s_ans .none).s_rsd .none)) hc)
    ·exact rfl
   exact Ar
  apply Ak
  ·apply Br
   ·exact F9 (t:=true) (Bk (Aw (Ae (Ac rfl) Au) (Vo (w:=w.setT c ((tc.s_ans .none).s_rsd .none)) ht ((Av _ _ hne).trans et) h1 h2)))
   exact Ar
  apply Ak
  ·apply A7
   apply Aw
   ·refine Ae (U9 (Ac rfl) rfl rfl (Vx (w:=w.setT c ((tc.s_ans .none).s_rsd .none)))) (Ae (Ac rfl) (Ae (Ac rfl) (Ae (Ac rfl) (Ae (Ac rfl) Au))))
   ·exact R9 (w:=(w.setT c ((tc.s_ans .none).s_rsd .none)).s_nums (w.nums + 1)) hG
  apply Ak
  ·exact Ca (Ac rfl) (Ac rfl) (Ady (w:=((w.setT c ((tc.s_ans .none).s_rsd .none)).s_nums (w.nums + 1)).newG (D2 ⟨w.nums + 1,c,t,vals, "made",.none⟩)) hc (Al _ _ _))
  apply Ak
  ·refine Ca (v:=.bool false) (Gv (Ac rfl) Ah rfl) (Ac rfl) (Afc (co:=⟨w.nums + 1,c,t,vals, "made",.none⟩) (Al _ _ _))
  apply Ak
  ·apply Br
   ·exact B2 (A4 (Ac rfl) Ah rfl) rfl
   exact Ar
  apply A8
  apply Cw
  ·exact Bk (Aw (Ae (Ac rfl) Au) (Akm (co:=⟨w.nums + 1,c,t,vals, "made",.none⟩) (tc:=((tc.s_ans .none).s_rsd .none).s_call (.id (.tmp w.gn))) (t:=tt) (Al _ _ _) hc ht (Al _ _ _) ((Av _ _ hne).trans ((Av _ _ hne).trans et)) hne es hs ho))
  exact A8 (B7 Ah)
 ·show updN (updN (updN (updN w.T c _) c _) c _) t _=updN (updN w.T c _) t _
  rw [Cb,Cb]; rfl
 ·show updN (updN (updN w.G w.gn _) w.gn _) w.gn _=updN w.G w.gn _
  rw [Cb,Cb]
theorem Kx (hq:w.q t=none) (hs:tt.st ≠ "accepting") (hG1:w.G (w.gn + 1)=none):H3 [.id .tasking,.id (.task c),.id (.task t),.base 542,vals,.none] (toA w)=some (.none,toA (w.callB c t tc vals)):=by
 refine Eq.trans (b:=some (.none,toA (((((((((w.setT c ((tc.s_ans .none).s_rsd .none)).s_nums (w.nums + 1)).newG (D2 ⟨w.nums + 1,c,t,vals, "made",.none⟩)).setT c (((tc.s_ans .none).s_rsd .none).s_call (.id (.tmp w.gn)))).setG w.gn (D2 ⟨w.nums + 1,c,t,vals, "made",.none⟩)).newG (.list [.id (.tmp w.gn)])).setq t (some (.id (.tmp (w.gn + 1))))).setG w.gn (D2 ⟨w.nums + 1,c,t,vals, "queued",.none⟩)).setT c (((((tc.s_ans .none).s_rsd .none).s_call (.id (.tmp w.gn))).s_st "calling").s_wake .none)))) ?_ (L3 (Ake ?_ ?_ (by kernel_rfl)))
 ·apply Ch rfl
  unfold Ic
  apply Ak
  ·repeat' (first
      | with_reducible apply Ca
      | ((with_reducible apply Ac); · exact rfl)
      | with_reducible exact Ah
      | with_reducible apply Kt
      | assumption)
  apply Ak
  ·repeat' (first
      | with_reducible apply Ca
      | ((with_reducible apply Ac); · exact rfl)
      | with_reducible exact Ah
      | with_reducible apply Ik
      | assumption)
  apply Ak
  ·apply Br
   ·apply G3
    ·exact Aw (Ae (Ac rfl) Au) (Qj (w:=w.setT c ((tc.s_ans .none).s_rsd .none)) hc)
    ·exact rfl
   exact Ar
  apply Ak
  ·apply Br
   ·exact F9 (t:=true) (Bk (Aw (Ae (Ac rfl) Au) (Vo (w:=w.setT c ((tc.s_ans .none).s_rsd .none)) ht ((Av _ _ hne).trans et) h1 h2)))
   exact Ar
  apply Ak
  ·apply A7
   apply Aw
   ·refine Ae (U9 (Ac rfl) rfl rfl (Vx (w:=w.setT c ((tc.s_ans .none).s_rsd .none)))) (Ae (Ac rfl) (Ae (Ac rfl) (Ae (Ac rfl) (Ae (Ac rfl) Au))))
   ·exact R9 (w:=(w.setT c ((tc.s_ans .none).s_rsd .none)).s_nums (w.nums + 1)) hG
  apply Ak
  ·exact Ca (Ac rfl) (Ac rfl) (Ady (w:=((w.setT c ((tc.s_ans .none).s_rsd .none)).s_nums (w.nums + 1)).newG (D2 ⟨w.nums + 1,c,t,vals, "made",.none⟩)) hc (Al _ _ _))
  apply Ak
  ·refine Ca (v:=.bool false) (Gv (Ac rfl) Ah rfl) (Ac rfl) (Afc (co:=⟨w.nums + 1,c,t,vals, "made",.none⟩) (Al _ _ _))
  apply Ak
  ·apply Br
   ·exact B2 (A4 (Ac rfl) Ah rfl) rfl
   exact Ar
  apply Ak
  ·apply Br
   ·exact Bk (Aw (Ae (Ac rfl) Au) (Akl (co:=⟨w.nums + 1,c,t,vals, "made",.none⟩) (t:=tt) (Al _ _ _) ht ((Av _ _ hne).trans ((Av _ _ hne).trans et)) hs))
   exact Ar
  apply Ak
  ·apply Br
   ·exact B2 (A4 (Ac rfl) Ah rfl) rfl
   exact Ar
  apply Ak
  ·apply Bo
   refine Aw (Ae (Ac rfl) Au) ?_
   exact S2 (co:=⟨w.nums + 1,c,t,vals, "made",.none⟩) (tc:=((tc.s_ans .none).s_rsd .none).s_call (.id (.tmp w.gn))) (Al _ _ _) ht hc (Al _ _ _) hq ((Av _ _ (Nat.succ_ne_self _)).trans ((Av _ _ (Nat.succ_ne_self _)).trans hG1))
  exact Ar
 ·show updN (updN (updN w.T c _) c _) c _=updN w.T c _
  rw [Cb,Cb]; rfl
 ·show updN (updN (updN (updN w.G w.gn _) w.gn _) (w.gn + 1) _) w.gn _=updN (updN w.G (w.gn + 1) _) w.gn _
  rw [Cb,Am8]
end
end
section
section
variable {w:Ws} {i k l:Nat} {co:CO} (hi:i < w.n)
include hi
theorem Akj (hq:w.q i=none):H4 [.id (.queues i),.base 542] (toA w)=some (.none,toA w):=by
 apply Bv rfl
 unfold Ig
 apply Ak
 ·exact A7 (Dv (Ac rfl) (Pt (R_q hi hq)) (Ae (Ac rfl) (Ae (Cj Au (Nat.zero_le _)) Au)) (Ah2 hi hq))
 exact A8 (B7 (Jp (t:=false) (G3 (Ac rfl) rfl) rfl))
theorem Akk (hq:w.q i=some (.id (.tmp l))) (hl:w.G l=some (.list [.id (.tmp k)])):H4 [.id (.queues i),.base 542] (toA w)=some (.id (.tmp k),toA w):=by
 apply Bv rfl
 unfold Ig
 apply Ak
 ·exact A7 (Dv (Ac rfl) (Pt (R_q hi hq)) (Ae (Ac rfl) (Ae (Cj Au (Nat.zero_le _)) Au)) (Ah2 hi hq))
 refine A8 (B7 (Jp (t:=true) (G3 (Ac rfl) (Vk (Qm hl))) ?_))
 refine Ax (Ac rfl) Ah (x:=.int 0) ?_
 show ((toA w).lst (.id (.tmp l))).bind _=_
 rw [Lg (Qm hl)]; rfl
theorem Amg (hq:w.q i=some (.id (.tmp l))) (hl:w.G l=some (.list [.id (.tmp k)])) (hk:w.G k=some (D2 co)):Jv [.id (.queues i),.id (.tmp k)] (toA w)=some (.none,toA (w.setq i none)):=by
 apply Ch rfl
 unfold J5
 have i0:(toA w).its (.id (.tmp l)) 0=some (some (.id (.tmp k))):=B5 (Qm hl)
 have i1:(toA w).its (.id (.tmp l)) 1=some none:=B5 (Qm hl)
 apply Ak
 ·apply A7
  apply D8
  ·exact Dv (Ac rfl) (Pt (R_q hi hq)) (Ae (Ay (Ac rfl) (Og hk)) (Ae (Cj Au (Nat.zero_le _)) Au)) (Ah2 hi hq)
  ·refine Als i0 rfl (A4 (Ay (Ac rfl) (X8 hk)) (Ay (Ac rfl) (X8 hk)) An5) (Acp i1)
 apply Ak
 ·apply Br
  ·exact A4 (Ac rfl) (Cj Au (Nat.zero_le _)) rfl
  ·apply Ak
   ·exact Bo (Dv (Ac rfl) (Pt (R_q hi hq)) (Ae (Ay (Ac rfl) (Og hk)) (Ae Ah Au)) (An3 hi hq))
   exact Ar
 exact Ar
end
theorem Amf {w:Ws}:K8 [Me] (toA w)=some (.none,toA w):=by
 apply Bv rfl
 unfold Ls
 apply Ak
 ·exact A7 Ah
 apply Ak
 ·apply D4 (Ac rfl)
  apply Fj
  ·exact rfl
  ·exact rfl
  ·apply Ak
   ·apply Br
    ·exact B2 (t:=false) (A4 (Ac rfl) Ah (Gu (by decide))) rfl
    exact Ar
   exact Ar
  apply Fj
  ·exact rfl
  ·exact rfl
  ·apply Ak
   ·apply Br
    ·exact B2 (t:=false) (A4 (Ac rfl) Ah (Gu (by decide))) rfl
    exact Ar
   exact Ar
  exact Eh rfl
 exact A8 (B7 (Ac rfl))
theorem Ac2 {w:Ws} {i:Nat} {t:TS} (hi:i < w.n) (ei:w.T i=t):Mq [.id .tasking,.id (.task i),Me] (toA w)=some (.none,toA (w.setT i ((t.s_st "accepting").s_op Me))):=by
 apply Ch rfl
 unfold Ng
 apply Ak
 ·exact A7 (Aw (Ae (Ac rfl) Au) Amf)
 apply Ak
 ·apply Br
  ·exact B2 (t:=false) (A4 (Ac rfl) Ah rfl) rfl
  exact Ar
 apply Ak
 ·exact Ca Ah (Ac rfl) (Jn hi ei)
 apply Ak
 ·exact Ca (Ac rfl) (Ac rfl) (Afd hi)
 apply Ak
 ·apply Br
  ·exact A4 (Ac rfl) Ah rfl
  exact Ar
 exact Ar
noncomputable def TS.waits (t:TS):TS:={ t with ans:=.none,rsd:=.none,st := "accepting",op:=Me }
theorem Ael {w:Ws} {i:Nat} {t:TS} (hi:i < w.n) (ei:w.T i=t) (hq:w.q i=none):Dk [.id .tasking,.id (.task i),Me,.bool false] (toA w)=some (.none,toA (w.setT i t.waits)):=by
 apply Ch rfl
 unfold Hd
 apply Ak
 ·repeat' (first
      | with_reducible apply Ca
      | ((with_reducible apply Ac); · exact rfl)
      | with_reducible exact Ah
      | with_reducible apply Kt
      | assumption)
 apply Ak
 ·repeat' (first
      | with_reducible apply Ca
      | ((with_reducible apply Ac); · exact rfl)
      | with_reducible exact Ah
      | with_reducible apply Ik
      | assumption)
 apply Ak
 ·apply Br
  ·exact Bk (Aw (Ae (Ac rfl) Au) (Qj (w:=w.setT i ((t.s_ans .none).s_rsd .none)) hi))
  exact Ar
 apply Ak
 ·apply Br
  ·exact B2 (t:=false) (A4 (Ac rfl) (Cj Au (Nat.zero_le _)) rfl) rfl
  exact Ar
 apply Ak
 ·apply D4 (Ac rfl)
  apply Fj
  ·exact rfl
  ·exact rfl
  ·apply Ak
   ·apply A7
    apply Jp (t:=true)
    ·exact A4 (Ac rfl) Ah (Jo rfl)
    ·exact Aw (Ae (Ay (Ac rfl) (Kj (w:=w.setT i ((t.s_ans .none).s_rsd .none)) hi rfl)) (Ae (Ac rfl) Au)) (Akj (w:=w.setT i ((t.s_ans .none).s_rsd .none)) hi hq)
   apply Ak
   ·apply Br
    ·exact A4 (Ac rfl) Ah rfl
    exact Ar
   exact Ar
  apply Fj
  ·exact rfl
  ·exact rfl
  ·apply Ak
   ·apply A7
    apply Jp (t:=false)
    ·exact A4 (Ac rfl) Ah (Gu (by decide))
    ·exact Dj rfl Ah
   apply Ak
   ·apply Br
    ·exact A4 (Ac rfl) Ah rfl
    exact Ar
   exact Ar
  exact Eh rfl
 apply Ak
 ·apply Br
  ·exact Bk (Ac rfl)
  exact Ar
 apply Ak
 ·apply Bo
  apply Aw
  ·exact Ae (Ac rfl) (Ae (Ac rfl) (Ae (Ac rfl) Au))
  rw [Ac2 (w:=w.setT i ((t.s_ans .none).s_rsd .none)) hi (Al _ _ _),E0]
 exact Ar
noncomputable def Ws.selB (w:Ws) (i k:Nat) (co:CO) (tc t:TS):Ws:={ w with
 T:=updN (updN w.T co.c ((tc.s_st "meeting").s_wake .none)) i (t.woken (.tup [.str "accept",.int 0,.id (.tmp k)]) .none)
 q:=updN w.q i none
 sv:=updN w.sv i [.id (.tmp k)]
 G:=updN w.G k (some (D2 (Nx co))) }
theorem Aem {w:Ws} {i k l:Nat} {co:CO} {tc t:TS} (hi:i < w.n) (ei:w.T i=t) (hq:w.q i=some (.id (.tmp l))) (hl:w.G l=some (.list [.id (.tmp k)])) (hk:w.G k=some (D2 co)) (hc:co.c < w.n) (ec:w.T co.c=tc) (hne:i≠co.c) (es:w.sv i=[]) :
  Dk [.id .tasking,.id (.task i),Me,.bool false] (toA w)=some (.none,toA (w.selB i k co tc t)):=by
 refine Eq.trans (b:=some (.none,toA ((((((w.setT i ((t.s_ans .none).s_rsd .none)).setq i none).setG k (D2 (Nx co))).setT co.c ((tc.s_st "meeting").s_wake .none)).setsv i [.id (.tmp k)]).setT i (((t.s_ans .none).s_rsd .none).woken (.tup [.str "accept",.int 0,.id (.tmp k)]) .none)))) ?_ (L3 (Ake ?_ ?_ (by kernel_rfl)))
 ·apply Bv rfl
  unfold Hd
  apply Ak
  ·repeat' (first
      | with_reducible apply Ca
      | ((with_reducible apply Ac); · exact rfl)
      | with_reducible exact Ah
      | with_reducible apply Kt
      | assumption)
  apply Ak
  ·repeat' (first
      | with_reducible apply Ca
      | ((with_reducible apply Ac); · exact rfl)
      | with_reducible exact Ah
      | with_reducible apply Ik
      | assumption)
  apply Ak
  ·apply Br
   ·exact Bk (Aw (Ae (Ac rfl) Au) (Qj (w:=w.setT i ((t.s_ans .none).s_rsd .none)) hi))
   exact Ar
  apply Ak
  ·apply Br
   ·exact B2 (t:=false) (A4 (Ac rfl) (Cj Au (Nat.zero_le _)) rfl) rfl
   exact Ar
  apply A8
  apply D4 (Ac rfl)
  apply U8
  ·exact rfl
  ·exact rfl
  apply Ak
  ·apply A7
   apply Jp (t:=true)
   ·exact A4 (Ac rfl) Ah (Jo rfl)
   ·exact Aw (Ae (Ay (Ac rfl) (Kj (w:=w.setT i ((t.s_ans .none).s_rsd .none)) hi rfl)) (Ae (Ac rfl) Au)) (Akk (w:=w.setT i ((t.s_ans .none).s_rsd .none)) hi hq hl)
  apply A8
  apply Cw
  ·exact A4 (Ac rfl) Ah rfl
  apply Ak
  ·apply Bo
   apply Aw
   ·exact Ae (Ay (Ac rfl) (Kj (w:=w.setT i ((t.s_ans .none).s_rsd .none)) hi rfl)) (Ae (Ac rfl) Au)
   ·exact Amg (w:=w.setT i ((t.s_ans .none).s_rsd .none)) hi hq hl hk
  apply Ak
  ·apply Bo
   apply Aw
   ·exact Ae (Ac rfl) (Ae (Ac rfl) (Ae (Ac rfl) Au))
   ·exact Mc (w:=(w.setT i ((t.s_ans .none).s_rsd .none)).setq i none) hk hc hi ((Av _ _ (Ne.symm hne)).trans ec) (Al _ _ _) hne es
  exact A8 (B7 Ah)
 ·show updN (updN (updN w.T i _) co.c _) i _=updN (updN w.T co.c _) i _
  rw [Am8]; rfl
 ·rfl
noncomputable def TS.rests (t:TS) (x:Int):TS:={ t with ans:=.none,rsd:=.none,st := "delayed",wake:=.int x }
theorem Amd {w:Ws} {i:Nat} {t:TS} (hi:i < w.n) (ei:w.T i=t):K6 [.id .tasking,.id (.task i),.int 1] (toA w)=some (.none,toA (w.setT i (t.rests (w.now + 1)))):=by
 apply Ch rfl
 unfold Lp
 apply Ak
 ·repeat' (first
      | with_reducible apply Ca
      | ((with_reducible apply Ac); · exact rfl)
      | with_reducible exact Ah
      | with_reducible apply Kt
      | assumption)
 apply Ak
 ·repeat' (first
      | with_reducible apply Ca
      | ((with_reducible apply Ac); · exact rfl)
      | with_reducible exact Ah
      | with_reducible apply Ik
      | assumption)
 apply Ak
 ·apply Cw
  ·refine B2 (t:=true) (F9 (t:=false) (Bk (Aw (Ae (Ac rfl) Au) (Qj (w:=w.setT i ((t.s_ans .none).s_rsd .none)) hi)))) ?_
   exact Df rfl (B2 (t:=true) (A4 (Ac rfl) Ah rfl) (Df rfl Ib))
  apply Ak
  ·exact Ca Ah (Ac rfl) (P8 hi)
  apply Ak
  ·apply Ca
   ·apply Aw (Ae (Ay (Ac rfl) rfl) (Ae (Ac rfl) Au))
    apply Bv rfl
    unfold Lx
    apply A8
    apply B7
    exact H0 (Ay (Ac rfl) rfl) (Aw (Ae (Ac rfl) (Ae Ah Au)) rfl) rfl
   ·exact Ac rfl
   ·exact Nv hi
  exact Ar
 exact Ar
theorem Ahf {w:Ws} {i:Nat} {t:TS} (hi:i < w.n) (ei:w.T i=t) (hs:t.st = "delayed"):H9 [.id (.task i)] (toA w)=some (.none,toA (w.setT i (t.woken .none .none))):=by
 apply Ch rfl
 unfold Ly
 apply Ak
 ·apply Br
  ·repeat' (first
      | with_reducible apply Ay
      | with_reducible apply A4
      | ((with_reducible apply Ac); · exact rfl)
      | with_reducible exact Ah
      | with_reducible apply Dw
      | ((with_reducible apply Gu); · first | assumption | decide | (simp only [*]; decide))
      | assumption)
  apply Ak
  ·apply Br
   ·repeat' (first
      | with_reducible apply Ay
      | with_reducible apply A4
      | ((with_reducible apply Ac); · exact rfl)
      | with_reducible exact Ah
      | with_reducible apply Dw
      | ((with_reducible apply Gu); · first | assumption | decide | (simp only [*]; decide))
      | assumption)
   apply Ak
   ·exact Bo (Aw (Ae (Ac rfl) (Ae Ah (Ae Ah Au))) (Rp hi ei))
   exact Ar
  exact Ar
 exact Ar
theorem Aoj {w:Ws} {i:Nat} {t:TS} (hi:i < w.n) (ei:w.T i=t) (hs:t.st ≠ "calling"):Jb [.id .tasking,.id (.task i)] (toA w)=some (.none,toA w):=by
 apply Ch rfl
 unfold Nc
 apply Ak
 ·apply Br
  ·repeat' (first
      | with_reducible apply Ay
      | with_reducible apply A4
      | ((with_reducible apply Ac); · exact rfl)
      | with_reducible exact Ah
      | with_reducible apply Dw
      | ((with_reducible apply Gu); · first | assumption | decide | (simp only [*]; decide))
      | assumption)
  exact Ar
 exact Ar
theorem Ro {w:Ws} {i:Nat} {t:TS} {b:Bool} (hi:i < w.n) (ei:w.T i=t) (ha:t.act=.none):Ea [.id (.task i),.bool b] (toA w)=some (.none,toA (w.setT i (t.s_act .none))):=by
 apply Bv rfl
 unfold Fr
 apply Ak
 ·exact A7 (Ay (Ac rfl) ((Ru hi ei).trans (congrArg some ha)))
 apply Ak
 ·repeat' (first
      | with_reducible apply Ca
      | ((with_reducible apply Ac); · exact rfl)
      | with_reducible exact Ah
      | with_reducible apply M6
      | assumption)
 apply A8
 apply Cw
 ·exact A4 (Ac rfl) Ah rfl
 exact A8 (B7 Ah)
noncomputable def TS.back (t:TS):TS:={ t with pend:=0,st := "ready",op:=.flist [],wake:=.none,late:=.none,ans:=.none,rsd:=.none }
theorem Ahb {w:Ws} {i a:Nat} {t ta:TS} (hi:i < w.n) (ei:w.T i=t) (ha:t.act=.id (.task a)) (hn:a < w.n) (hne:a≠i) (ea:w.T a=ta) (hp:ta.pend=1) (hf:ta.failed=false) (hs:ta.st = "activating") :
  Ea [.id (.task i),.bool false] (toA w)=some (.none,toA ((w.setT i (t.s_act .none)).setT a ta.back)):=by
 refine Eq.trans (b:=some (.none,toA ((w.setT i (t.s_act .none)).setT a (((((ta.s_pend (1 - 1)).s_failed false).s_failed false).woken .none .none))))) ?_ ?_
 ·apply Ch rfl
  unfold Fr
  apply Ak
  ·exact A7 (Ay (Ac rfl) ((Ru hi ei).trans (congrArg some ha)))
  apply Ak
  ·repeat' (first
      | with_reducible apply Ca
      | ((with_reducible apply Ac); · exact rfl)
      | with_reducible exact Ah
      | with_reducible apply M6
      | assumption)
  apply Ak
  ·apply Br
   ·exact A4 (Ac rfl) Ah rfl
   exact Ar
  have ea':(w.setT i (t.s_act .none)).T a=ta:=(Av _ _ hne).trans ea
  apply Ak
  ·exact Aas (Ac rfl) ((Qx (w:=w.setT i (t.s_act .none)) hn ea').trans (by rw [hp])) Ah rfl (Yk (w:=w.setT i (t.s_act .none)) hn ea')
  apply Ak
  ·refine Ca (v:=.bool false) (Am2 (t:=false) (Ay (Ac rfl) ((Pf (w:=(w.setT i (t.s_act .none)).setT a (ta.s_pend (1 - 1))) hn (Al _ _ _)).trans (congrArg (fun z=>some (AVal.bool z)) hf))) rfl (Ac rfl)) (Ac rfl) (N8 (w:=w.setT i (t.s_act .none)) hn)
  apply Ak
  ·apply Cw
   ·refine B2 (t:=true) (A4 (Ay (Ac rfl) (Qx (w:=(w.setT i (t.s_act .none)).setT a ((ta.s_pend (1 - 1)).s_failed false)) hn (Al _ _ _))) Ah rfl) ?_
    exact Df rfl (B2 (t:=true) (A4 (Ay (Ac rfl) (Dw (w:=(w.setT i (t.s_act .none)).setT a ((ta.s_pend (1 - 1)).s_failed false)) hn (Al _ _ _))) Ah (Jo hs)) (Df rfl Ib))
   apply Ak
   ·apply A7
    apply Jp (t:=false)
    ·exact Bk (Ay (Ac rfl) (Pf (w:=(w.setT i (t.s_act .none)).setT a ((ta.s_pend (1 - 1)).s_failed false)) hn (Al _ _ _)))
    ·exact Dj rfl Ah
   apply Ak
   ·exact Ca Ah (Ac rfl) (N8 (w:=w.setT i (t.s_act .none)) hn)
   apply Ak
   ·exact Bo (Aw (Ae (Ac rfl) (Ae Ah (Ae (Ac rfl) Au))) (Vz (w:=w.setT i (t.s_act .none)) hn))
   exact Ar
  exact Ar
 ·refine congrArg (fun z=>some (AVal.none,toA ((w.setT i (t.s_act .none)).setT a z))) ?_
  cases ta
  subst hf
  rfl
end
section
section
variable {σ:AS} {i j:Id} {o o':AObj}
theorem Y0:(σ.add i o).set i o'=σ.add i o':=by
 refine congrArg (fun R=>(⟨R,nextN σ i⟩:AS)) (funext fun k=>?_)
 show (if k=i then some o' else if k=i then some o else σ.R k)=if k=i then some o' else σ.R k
 split <;> rfl
theorem Aml {C:Addr} {fs:List (String×AVal)} {n:String} {x:AVal} (h:fs.length < 200):(σ.add i (.inst C fs)).setF (.id i) n x=some (σ.add i (.inst C (Bd fs n x))):=by
 unfold AS.setF
 show (match (σ.add i (.inst C fs)).R i with | some (.inst C' fs')=>if fs'.length < 200 then some ((σ.add i (.inst C fs)).set i (.inst C' (Bd fs' n x))) else none | _=>none)=_
 rw [show (σ.add i (.inst C fs)).R i=some (.inst C fs) from E3 ..]
 refine (if_pos h).trans ?_
 rw [Y0]
theorem E7 (h:σ.R i=none):σ.born i o=some (σ.add i o):=by unfold AS.born; rw [h]
theorem Ip (hij:j≠i) (h:σ.R j=none) (hi:∀ σ,nextN σ i=σ.n) (hj:∀ σ,nextN σ j=σ.n):(σ.add i o).born j o'=some ((σ.add j o').add i o):=by
 rw [E7 (by show upd σ.R i o j=none; rw [Ga _ _ hij]; exact h)]
 refine congrArg some ?_
 show (⟨upd (upd σ.R i o) j o',nextN (σ.add i o) j⟩:AS)=⟨upd (upd σ.R j o') i o,nextN (σ.add j o') i⟩
 rw [hi,hj]
 show (⟨upd (upd σ.R i o) j o',nextN σ i⟩:AS)=⟨upd (upd σ.R j o') i o,nextN σ j⟩
 rw [hi,hj]
 refine congrArg (fun R=>(⟨R,σ.n⟩:AS)) (funext fun k=>?_)
 show (if k=j then some o' else if k=i then some o else σ.R k)=if k=i then some o else if k=j then some o' else σ.R k
 by_cases h1:k=j
 ·subst h1; rw [if_pos rfl,if_neg hij,if_pos rfl]
 ·rw [if_neg h1,if_neg h1]
end
noncomputable def Dr (num:Int) (name:String) (mas:AVal):TS:=⟨num,name,mas, "fresh",.flist [],.none,.none,.none,.none,.none,.none,0,false⟩
noncomputable def Ws.newT (w:Ws) (t:TS):Ws:={ w with n:=w.n + 1,T:=updN w.T w.n t,q:=updN w.q w.n none,sv:=updN w.sv w.n [],ms:=updN w.ms w.n [] }
theorem Aik {w:Ws} {t:TS}:((((toA w).add (.queues w.n) (.qdict none)).add (.serving w.n) (.list [])).add (.masters w.n) (.list [])).add (.task w.n) (Vj w.n t)=toA (w.newT t):=by
 refine Of rfl fun j=>?_
 show upd (upd (upd (upd (toR w) (.queues w.n) (.qdict none)) (.serving w.n) (.list [])) (.masters w.n) (.list [])) (.task w.n) (Vj w.n t) j=_
 have lt:∀ k,k≠w.n→(k < w.n + 1 ↔ k < w.n):=fun k hk=>by lia
 cases j with
 | task k =>
  show (if Id.task k=Id.task w.n then some (Vj w.n t) else if k < w.n then some (Vj k (w.T k)) else none)=if k < w.n + 1 then some (Vj k (updN w.T w.n t k)) else none
  by_cases hk:k=w.n
  ·subst hk; rw [if_pos rfl,if_pos (Nat.lt_succ_self _),Al]
  ·rw [if_neg (fun z=>hk (Id.task.inj z)),Av _ _ hk]; simp only [lt k hk]
 | queues k =>
  show (if Id.queues k=Id.queues w.n then some (AObj.qdict none) else if k < w.n then some (AObj.qdict (w.q k)) else none)=if k < w.n + 1 then some (AObj.qdict (updN w.q w.n none k)) else none
  by_cases hk:k=w.n
  ·subst hk; rw [if_pos rfl,if_pos (Nat.lt_succ_self _),Al]
  ·rw [if_neg (fun z=>hk (Id.queues.inj z)),Av _ _ hk]; simp only [lt k hk]
 | serving k =>
  show (if Id.serving k=Id.serving w.n then some (AObj.list []) else if k < w.n then some (AObj.list (w.sv k)) else none)=if k < w.n + 1 then some (AObj.list (updN w.sv w.n [] k)) else none
  by_cases hk:k=w.n
  ·subst hk; rw [if_pos rfl,if_pos (Nat.lt_succ_self _),Al]
  ·rw [if_neg (fun z=>hk (Id.serving.inj z)),Av _ _ hk]; simp only [lt k hk]
 | masters k =>
  show (if Id.masters k=Id.masters w.n then some (AObj.list []) else if k < w.n then some (AObj.list (w.ms k)) else none)=if k < w.n + 1 then some (AObj.list (updN w.ms w.n [] k)) else none
  by_cases hk:k=w.n
  ·subst hk; rw [if_pos rfl,if_pos (Nat.lt_succ_self _),Al]
  ·rw [if_neg (fun z=>hk (Id.masters.inj z)),Av _ _ hk]; simp only [lt k hk]
 | _=>rfl
theorem Aaz {w:Ws} {num:Int} {name:String} {mas:AVal} (hn:w.tn=w.n):I9 [.int num,.str name,mas] (toA w)=some (.id (.task w.n),toA (w.newT (Dr num name mas))):=by
 have none_of:∀ {α:Type} (x:α),(if w.n < w.n then some x else none)=none:=fun x=>if_neg (Nat.lt_irrefl _)
 refine Ajs (σ₁:=(toA w).add (.task w.n) (.inst 190 [])) ?_ (E7 (none_of _)) ?_
 ·show some (Id.task (tl w.tn).length)=_
  rw [E1,hn]
 rw [← Aik]
 have bq:∀ {o o'},((toA w).add (.task w.n) o).born (.queues w.n) o'=some (((toA w).add (.queues w.n) o').add (.task w.n) o):=fun {o o'}=>Ip (σ:=toA w) (fun z=>by cases z) (none_of _) (fun J=>rfl) (fun J=>rfl)
 have bs:∀ {o o' q},(((toA w).add (.queues w.n) q).add (.task w.n) o).born (.serving w.n) o'=some ((((toA w).add (.queues w.n) q).add (.serving w.n) o').add (.task w.n) o):=fun {o o' q}=>Ip (σ:=(toA w).add (.queues w.n) q) (fun z=>by cases z) (none_of _) (fun J=>rfl) (fun J=>rfl)
 have bm:∀ {o o' q q'},((((toA w).add (.queues w.n) q).add (.serving w.n) q').add (.task w.n) o).born (.masters w.n) o'=some (((((toA w).add (.queues w.n) q).add (.serving w.n) q').add (.masters w.n) o').add (.task w.n) o):=fun {o o' q q'}=>Ip (σ:=((toA w).add (.queues w.n) q).add (.serving w.n) q') (fun z=>by cases z) (none_of _) (fun J=>rfl) (fun J=>rfl)
 apply Eq.trans
 ·apply Ch rfl
  unfold G5
  repeat' (first
   | exact Ar
   | with_reducible apply Ak
   | with_reducible apply Ca
   | ((with_reducible apply Ac); · exact rfl)
   | with_reducible exact Ah
   | with_reducible exact Au
   | with_reducible apply Cj
   | ((with_reducible apply Afi); (· exact rfl); (· exact bq))
   | ((with_reducible apply Hc); (· exact Au); (· exact Nat.zero_le _); (· exact rfl); (· first | exact bs | exact bm))
   | with_reducible apply Aml
   | exact Nat.zero_le _
   | (apply Nat.le_of_ble_eq_true; kernel_rfl))
 ·kernel_rfl
theorem Sb {w:Ws} {k:Nat} {num:Int} {name:String} {mas:AVal} (hk:w.n=k) (hn:w.tn=k):I9 [.int num,.str name,mas] (toA w)=some (.id (.task k),toA (w.newT (Dr num name mas))):=by subst hk; exact Aaz hn
end
section
theorem Aij {w:Ws} {p:Nat} {m:MS}:(((toA w).add (.deps p) (.list m.deps)).add (.master p) (Z7 m (.id (.task p)) (.deps p)))=toA (w.setM p m):=by
 refine Of rfl fun j=>?_
 show upd (upd (toR w) (.deps p) (.list m.deps)) (.master p) (Z7 m (.id (.task p)) (.deps p)) j=_
 cases j with
 | master k =>
  show (if Id.master k=Id.master p then some (Z7 m (.id (.task p)) (.deps p)) else (w.M k).map _)=(updN w.M p (some m) k).map _
  by_cases hk:k=p
  ·subst hk; rw [if_pos rfl,Al]; rfl
  ·rw [if_neg (fun z=>hk (Id.master.inj z)),Av _ _ hk]
 | deps k =>
  show (if Id.deps k=Id.deps p then some (AObj.list m.deps) else (w.M k).map _)=(updN w.M p (some m) k).map _
  by_cases hk:k=p
  ·subst hk; rw [if_pos rfl,Al]; rfl
  ·rw [if_neg (fun z=>hk (Id.deps.inj z)),Av _ _ hk]
 | _=>rfl
theorem Akf {w:Ws} {p:Nat} {num:Int} (h:w.M p=none):Pe [.int num,.id (.task p)] (toA w)=some (.id (.master p),toA (w.setM p ⟨num,false,[]⟩)):=by
 have hm:toR w (.master p)=none:=by show (w.M p).map _=none; rw [h]; rfl
 have hd:toR w (.deps p)=none:=by show (w.M p).map _=none; rw [h]; rfl
 have bd:∀ {o o'},((toA w).add (.master p) o).born (.deps p) o'=some (((toA w).add (.deps p) o').add (.master p) o):=fun {o o'}=>Ip (σ:=toA w) (fun z=>by cases z) hd (fun J=>rfl) (fun J=>rfl)
 refine Ajs (σ₁:=(toA w).add (.master p) (.inst 323 [])) rfl (E7 hm) ?_
 rw [← Aij]
 apply Eq.trans
 ·apply Ch rfl
  unfold Jz
  repeat' (first
   | exact Ar
   | with_reducible apply Ak
   | with_reducible apply Ca
   | ((with_reducible apply Ac); · exact rfl)
   | with_reducible exact Ah
   | ((with_reducible apply Hc); (· exact Au); (· exact Nat.zero_le _); (· exact rfl); (· exact bd))
   | with_reducible apply Aml
   | (apply Nat.le_of_ble_eq_true; kernel_rfl))
 ·kernel_rfl
theorem Hf {w:Ws} {p:Nat} (hp:p < w.n) (h:w.M p=none) (hm:w.ms p=[]) :
  Jw [.id .tasking,.id (.task p)] (toA w)=some (.id (.master p),toA (((w.s_nums (w.nums + 1)).setM p ⟨w.nums + 1,false,[]⟩).setms p [.id (.master p)])):=by
 apply Bv rfl
 unfold J6
 apply Ak
 ·apply A7
  apply Aw
  ·exact Ae (U9 (Ac rfl) rfl rfl Vx) (Ae (Ac rfl) Au)
  ·exact Akf (w:=w.s_nums (w.nums + 1)) h
 apply Ak
 ·apply Bo
  apply Dv
  ·exact Ay (Ac rfl) (D6 (w:=(w.s_nums (w.nums + 1)).setM p ⟨w.nums + 1,false,[]⟩) hp rfl)
  ·exact Cv (Md (w:=(w.s_nums (w.nums + 1)).setM p ⟨w.nums + 1,false,[]⟩) hp hm)
  ·exact Ae (Ac rfl) Au
  ·exact Anb (w:=(w.s_nums (w.nums + 1)).setM p ⟨w.nums + 1,false,[]⟩) hp hm (by decide)
 exact A8 (B7 (Ac rfl))
theorem Amx {w:Ws} {i:Nat} (h:i < w.n):(toA w).setF (.id (.task i)) "is_abnormal" (.bool false)=some (toA w):=by
 rw [Fl (t:=w.T i) h rfl]
 refine congrArg (fun z=>some (toA z)) ?_
 show ({ w with T:=updN w.T i (w.T i) }:Ws)=w
 rw [Amb rfl]
 cases w; rfl
theorem Tp {w:Ws} {k:Nat} (hn:w.tn=k) (hl:k < 1000000):Ck (toA w) (.id .tasksL) [.id (.task k)]=some (.none,toA (w.s_tn (k + 1))):=by subst hn; exact Af3 hl
section
variable {w:Ws} {name:String} (hn:w.tn=w.n) (hl:w.n < 50)
include hn hl
theorem I6 (hd:w.lib.deps.length < 1000000):Gb [.id .tasking,.str name,.id .lib,.int 1] (toA w) =
  some (.id (.task w.n),toA ((((w.s_nums (w.nums + 1)).newT (Dr (w.nums + 1) name (.id .lib))).s_lib (w.lib.s_deps (w.lib.deps++[.id (.task w.n)]))).s_tn (w.n + 1))):=by
 apply Bv rfl
 unfold Jq
 apply Ak
 ·apply Br
  ·refine A4 (Aw (Ae (Ay (Ac rfl) rfl) Au) (show F7 [.id .tasksL] (toA w)=some (.int (tl w.tn).length,toA w) from rfl)) (Ay (Ay (Ac rfl) rfl) rfl) ?_
   show some (decide (((tl w.tn).length:Int) ≥ 50))=some false
   rw [E1,hn]
   exact congrArg some (decide_eq_false (by lia))
  exact Ar
 apply Ak
 ·apply A7
  apply Aw
  ·exact Ae (U9 (Ac rfl) rfl rfl Vx) (Ae (Ac rfl) (Ae (Ac rfl) Au))
  ·exact Sb (w:=w.s_nums (w.nums + 1)) (k:=w.n) rfl hn
 apply Ak
 ·refine Ca (v:=.bool false) (Oq (t:=false) (Gv (Ay (Ac rfl) rfl) Ah rfl) rfl rfl) (Ac rfl) (Amx (w:=(w.s_nums (w.nums + 1)).newT (Dr (w.nums + 1) name (.id .lib))) (Nat.lt_succ_self _))
 apply Ak
 ·exact Bo (Dv (Ay (Ac rfl) rfl) (Cv rfl) (Ae (Ac rfl) Au) (Ahl (w:=(w.s_nums (w.nums + 1)).newT (Dr (w.nums + 1) name (.id .lib))) (l:=w.lib) rfl hd))
 apply Ak
 ·apply Bo
  apply Dv
  ·exact Ay (Ac rfl) rfl
  ·exact Cv rfl
  ·exact Ae (Ac rfl) Au
  ·exact Tp (k:=w.n) hn (by lia)
 exact A8 (B7 (Ac rfl))
theorem L1 {p:Nat} {m:MS} (hp:p < w.n) (hm:w.M p=some m) (hd:m.deps.length < 1000000):Gb [.id .tasking,.str name,.id (.master p),.int 1] (toA w) =
  some (.id (.task w.n),toA ((((w.s_nums (w.nums + 1)).newT (Dr (w.nums + 1) name (.id (.master p)))).setM p (m.s_deps (m.deps++[.id (.task w.n)]))).s_tn (w.n + 1))):=by
 apply Bv rfl
 unfold Jq
 apply Ak
 ·apply Br
  ·refine A4 (Aw (Ae (Ay (Ac rfl) rfl) Au) (show F7 [.id .tasksL] (toA w)=some (.int (tl w.tn).length,toA w) from rfl)) (Ay (Ay (Ac rfl) rfl) rfl) ?_
   show some (decide (((tl w.tn).length:Int) ≥ 50))=some false
   rw [E1,hn]
   exact congrArg some (decide_eq_false (by lia))
  exact Ar
 apply Ak
 ·apply A7
  apply Aw
  ·exact Ae (U9 (Ac rfl) rfl rfl Vx) (Ae (Ac rfl) (Ae (Ac rfl) Au))
  ·exact Sb (w:=w.s_nums (w.nums + 1)) (k:=w.n) rfl hn
 apply Ak
 ·refine Ca (v:=.bool false) (Oq (t:=true) (Gv (Ay (Ac rfl) (Abw (w:=(w.s_nums (w.nums + 1)).newT (Dr (w.nums + 1) name (.id (.master p)))) hm)) Ah rfl) rfl ?_) (Ac rfl) (Amx (w:=(w.s_nums (w.nums + 1)).newT (Dr (w.nums + 1) name (.id (.master p)))) (Nat.lt_succ_self _))
  exact Df rfl (Ay (Ay (Ac rfl) (Abw (w:=(w.s_nums (w.nums + 1)).newT (Dr (w.nums + 1) name (.id (.master p)))) hm)) (E9 (w:=(w.s_nums (w.nums + 1)).newT (Dr (w.nums + 1) name (.id (.master p)))) (Nat.lt_succ_of_lt hp) rfl))
 apply Ak
 ·exact Bo (Dv (Ay (Ac rfl) (Je (w:=(w.s_nums (w.nums + 1)).newT (Dr (w.nums + 1) name (.id (.master p)))) hm)) (Cv (Jr (w:=(w.s_nums (w.nums + 1)).newT (Dr (w.nums + 1) name (.id (.master p)))) hm)) (Ae (Ac rfl) Au) (Ahk (w:=(w.s_nums (w.nums + 1)).newT (Dr (w.nums + 1) name (.id (.master p)))) hm hd))
 apply Ak
 ·apply Bo
  apply Dv
  ·exact Ay (Ac rfl) rfl
  ·exact Cv rfl
  ·exact Ae (Ac rfl) Au
  ·exact Tp (k:=w.n) hn (by lia)
 exact A8 (B7 (Ac rfl))
end
theorem Aei {w:Ws} {i:Nat} {t:TS} (hi:i < w.n) (ei:w.T i=t) (hs:t.st = "fresh"):D1 [.none,.flist [.id (.task i)]] (toA w)=some (.none,toA (w.setT i ((t.s_st "ready").s_act .none))):=by
 apply Ch rfl
 unfold Fq
 apply Ak
 ·apply D4 (Ac rfl)
  apply Fj
  ·exact rfl
  ·exact rfl
  ·apply Ak
   ·apply Cw
    ·exact A4 (Ay (Ac rfl) (Dw hi ei)) Ah (Jo hs)
    apply Ak
    ·exact Ca Ah (Ac rfl) (Jn hi ei)
    apply Ak
    ·exact Ca (Ac rfl) (Ac rfl) (P7 hi)
    apply Ak
    ·apply Br
     ·exact A4 (Ac rfl) Ah rfl
     exact Ar
    exact Ar
   exact Ar
  exact Eh rfl
 exact Ar
theorem Akg {w:Ws} {i a:Nat} {t ta:TS} (hi:i < w.n) (ei:w.T i=t) (hs:t.st = "fresh") (ha:a < w.n) (ea:w.T a=ta) (hne:a≠i):D1 [.id (.task a),.flist [.id (.task i)]] (toA w) =
  some (.none,toA ((w.setT i ((t.s_st "ready").s_act (.id (.task a)))).setT a ((ta.s_pend (ta.pend + 1)).s_st "activating"))):=by
 have ea':(w.setT i ((t.s_st "ready").s_act (.id (.task a)))).T a=ta:=(Av _ _ hne).trans ea
 apply Ch rfl
 unfold Fq
 apply Ak
 ·apply D4 (Ac rfl)
  apply Fj
  ·exact rfl
  ·exact rfl
  ·apply Ak
   ·apply Cw
    ·exact A4 (Ay (Ac rfl) (Dw hi ei)) Ah (Jo hs)
    apply Ak
    ·exact Ca Ah (Ac rfl) (Jn hi ei)
    apply Ak
    ·exact Ca (Ac rfl) (Ac rfl) (P7 hi)
    apply Ak
    ·apply Cw
     ·exact A4 (Ac rfl) Ah rfl
     apply Ak
     ·exact Aas (Ac rfl) (Qx (w:=w.setT i ((t.s_st "ready").s_act (.id (.task a)))) ha ea') Ah rfl (Yk (w:=w.setT i ((t.s_st "ready").s_act (.id (.task a)))) ha ea')
     apply Ak
     ·exact Ca Ah (Ac rfl) (P8 (w:=w.setT i ((t.s_st "ready").s_act (.id (.task a)))) ha)
     exact Ar
    exact Ar
   exact Ar
  exact Eh rfl
 exact Ar
noncomputable def M2:SS:=⟨[],.none,.none, "begin"⟩
noncomputable def Ws.newS (w:Ws):Ws:={ w with ns:=w.ns + 1,S:=updN w.S w.ns M2 }
theorem Aa3 {w:Ws} (hs:w.sn=w.ns) {m:B1}:Ir (Hb .stage) (Ct "got" (Eg (Hb .got) Ap) (Ct "next" (An .none) (Ct "hand" (An .none) (Ct "does" (An (.str "begin")) N9)))) m (toA w)=some (.id (.stage w.ns),toA w.newS):=by
 have none_of:∀ {α:Type} (x:α),(if w.ns < w.ns then some x else none)=none:=fun x=>if_neg (Nat.lt_irrefl _)
 have nm:∀ (f:Nat→Id) (σ:AS),σ.R .stages=some (.list (sl w.sn))→Hb f m σ=some (f w.ns):=fun f σ h=>by
  show (match σ.R .stages with | some (.list xs)=>some (f xs.length) | _=>none)=_
  rw [h]
  show some (f (sl w.sn).length)=_
  rw [Vf,hs]
 have b1:(toA w).born (.stage w.ns) (.sdict [])=some ((toA w).add (.stage w.ns) (.sdict [])):=E7 (none_of _)
 have b2:((toA w).add (.stage w.ns) (.sdict [])).born (.got w.ns) (.list [])=some (((toA w).add (.got w.ns) (.list [])).add (.stage w.ns) (.sdict [])):=Ip (σ:=toA w) (fun z=>by cases z) (none_of _) (fun J=>rfl) (fun J=>rfl)
 have p1:Ct "got" (Eg (Hb .got) Ap) (Ct "next" (An .none) (Ct "hand" (An .none) (Ct "does" (An (.str "begin")) N9))) m ((toA w).add (.stage w.ns) (.sdict []))=some ([("got",.id (.got w.ns)),("next",.none),("hand",.none),("does",.str "begin")],((toA w).add (.got w.ns) (.list [])).add (.stage w.ns) (.sdict [])):=by
  unfold Ct
  rw [Hc (nm:=Hb .got) (i:=.got w.ns) Au (Nat.zero_le _) (nm _ _ rfl) b2]
  rfl
 unfold Ir
 rw [nm _ _ rfl,Option.bind_some,b1,Option.bind_some,p1,Option.bind_some]
 show (match (((toA w).add (.got w.ns) (.list [])).add (.stage w.ns) (.sdict [])).R (.stage w.ns) with | some (.sdict [])=>_ | _=>_)=_
 rw [show (((toA w).add (.got w.ns) (.list [])).add (.stage w.ns) (.sdict [])).R (.stage w.ns)=some (.sdict []) from E3 ..]
 refine (if_pos (show (["got", "next", "hand", "does"]:List String).Nodup∧4≤15 by decide)).trans ?_
 rw [Y0]
 refine congrArg (fun z=>some (AVal.id (.stage w.ns),z)) (Of rfl fun j=>?_)
 show upd (upd (toR w) (.got w.ns) (.list [])) (.stage w.ns) _ j=_
 have lt:∀ k,k≠w.ns→(k < w.ns + 1 ↔ k < w.ns):=fun k hk=>by lia
 cases j with
 | stage k =>
  show (if Id.stage k=Id.stage w.ns then _ else if k < w.ns then some (AObj.sdict (sF k (w.S k))) else none)=if k < w.ns + 1 then some (AObj.sdict (sF k (updN w.S w.ns M2 k))) else none
  by_cases hk:k=w.ns
  ·subst hk; rw [if_pos rfl,if_pos (Nat.lt_succ_self _),Al]; rfl
  ·rw [if_neg (fun z=>hk (Id.stage.inj z)),Av _ _ hk]; simp only [lt k hk]
 | got k =>
  show (if Id.got k=Id.got w.ns then some (AObj.list []) else if k < w.ns then some (AObj.list (w.S k).got) else none)=if k < w.ns + 1 then some (AObj.list (updN w.S w.ns M2 k).got) else none
  by_cases hk:k=w.ns
  ·subst hk; rw [if_pos rfl,if_pos (Nat.lt_succ_self _),Al]; rfl
  ·rw [if_neg (fun z=>hk (Id.got.inj z)),Av _ _ hk]; simp only [lt k hk]
 | _=>rfl
end
theorem L0 {a b:Ws} (hT:a.T=b.T) (hG:a.G=b.G) (hM:a.M=b.M) (hr:({ a with T:=b.T,G:=b.G,M:=b.M }:Ws)=b):a=b:=by
 rw [← hr,← hT,← hG,← hM]
 cases a; rfl
theorem I8 {w:Ws} {k:Nat} (hn:w.sn=k) (hl:k < 1000000):Ck (toA w) (.id .stages) [.id (.stage k)]=some (.none,toA (w.s_sn (k + 1))):=by subst hn; exact Ac9 hl
noncomputable def Tb (num:Int) (mas act:AVal):TS:=⟨num, "stage",mas, "ready",.flist [],.none,.none,.none,.none,.none,act,0,false⟩
noncomputable def TS.acting (t:TS):TS:={ t with pend:=t.pend + 1,st := "activating" }
noncomputable def Rv (T:Nat→TS) (n p:Nat) (num:Int) (mas:AVal) (tp:TS):Bool→Nat→TS
 | true=>updN (updN T n (Tb num mas (.id (.task p)))) p tp.acting
 | false=>updN T n (Tb num mas .none)
noncomputable def Ws.growL (w:Ws) (pat:Bool) (p:Nat) (tp:TS) (S':Nat→SS) (sx:AVal):Ws:={ w with
 n:=w.n + 1
 tn:=w.n + 1
 nums:=w.nums + 1
 T:=Rv w.T w.n p (w.nums + 1) (.id .lib) tp pat
 q:=updN w.q w.n none
 sv:=updN w.sv w.n []
 ms:=updN w.ms w.n []
 lib:=w.lib.s_deps (w.lib.deps++[.id (.task w.n)])
 crew:=w.crew++[.int (w.nums + 1)]
 ns:=w.ns + 1
 sn:=w.ns + 1
 S:=updN S' w.ns M2
 snext:=sx }
noncomputable def Ws.growM (w:Ws) (pat:Bool) (p:Nat) (tp:TS) (S':Nat→SS) (sx:AVal):Ws:={ w with
 n:=w.n + 1
 tn:=w.n + 1
 nums:=w.nums + 1 + 1
 T:=Rv w.T w.n p (w.nums + 1 + 1) (.id (.master p)) tp pat
 q:=updN w.q w.n none
 sv:=updN w.sv w.n []
 ms:=updN (updN w.ms p [.id (.master p)]) w.n []
 M:=updN w.M p (some ⟨w.nums + 1,false,[.id (.task w.n)]⟩)
 crew:=w.crew++[.int (w.nums + 1 + 1)]
 ns:=w.ns + 1
 sn:=w.ns + 1
 S:=updN S' w.ns M2
 snext:=sx }
noncomputable def R8:SD:=(Am (Bw (Ed "list" Ck (Bg (Ad "mill") (An (.str "stages"))) (Af (Ir (Hb .stage) (Ct "got" (Eg (Hb .got) Ap) (Ct "next" (An .none) (Ct "hand" (An .none) (Ct "does" (An (.str "begin")) N9))))) Ap))) (Am (Bw (Ed "list" Ck (Bg (Ad "mill") (An (.str "crew"))) (Af (A1 (Bg (Ad "stage") (An (.str "next"))) "number") Ap))) (Am (Bw (Az D1 (Af (dIf (Cz (Bg (Ad "mill") (An (.str "has_patience")))) (Ad "task") (An .none)) (Af (Db (Af (Bg (Ad "stage") (An (.str "next"))) Ap)) Ap)))) (Am (C4 (Bg (Ad "mill") (An (.str "has_patience")))) Aq))))
theorem Mw {w:Ws} {b:Bool} (h:w.pat=b):(toA w).item (.id .mill) (.str "has_patience")=some (.bool b):=congrArg (fun z=>some (AVal.bool z)) h
theorem Jh {w:Ws} {b:Bool} (h:w.nested=b):(toA w).item (.id .mill) (.str "is_nested")=some (.bool b):=congrArg (fun z=>some (AVal.bool z)) h
theorem Em {w:Ws} {v:AVal} (h:w.snext=v):(toA w).item (.id .source) (.str "next")=some v:=congrArg some h
theorem Fx {w:Ws} {v:AVal} (h:w.shand=v):(toA w).item (.id .source) (.str "hand")=some v:=congrArg some h
theorem Pq {w:Ws} {v:String} (h:w.sdoes=v):(toA w).item (.id .source) (.str "does")=some (.str v):=congrArg (fun z=>some (AVal.str z)) h
theorem Ge {w:Ws} {s:Nat} {v:AVal} (hs:s < w.ns) (h:(w.S s).next=v):(toA w).item (.id (.stage s)) (.str "next")=some v:=(Lc hs rfl).trans (congrArg some h)
theorem Yq {w:Ws} {m:B1} {p k:Nat} {t tp:TS} (m1:m.lookup "mill" = some (.id .mill)) (m2:m.lookup "stage" = some (.id .source)) (m3:m.lookup "task" = some (.id (.task p))) (hs:w.sn=w.ns) (hl2:w.ns < 50) (hx:w.snext=.id (.task k)) (hk:k < w.n) (ek:w.T k=t) (hst:t.st = "fresh") (hcl:w.crew.length < 1000000) (hp:p < w.n) (ep:w.T p=tp) (hpk:p≠k) (hpat:w.pat=true):R8 m (toA w)=some (.ret (.bool true),m,toA ((((w.newS.s_sn (w.ns + 1)).s_crew (w.crew++[.int t.num])).setT k ((t.s_st "ready").s_act (.id (.task p)))).setT p ((tp.s_pend (tp.pend + 1)).s_st "activating"))):=by
 unfold R8
 apply Ak
 ·apply Bo
  apply Dv
  ·exact Ax (Ac m1) Ah rfl
  ·exact Cv rfl
  ·exact Ae (Aa3 hs) Au
  ·exact I8 (w:=w.newS) (k:=w.ns) hs (by lia)
 apply Ak
 ·apply Bo
  apply Dv
  ·exact Ax (Ac m1) Ah rfl
  ·exact Cv rfl
  ·exact Ae (Ay (Ax (Ac m2) Ah (Em (w:=(w.newS.s_sn (w.ns + 1))) hx)) (Fw (w:=(w.newS.s_sn (w.ns + 1))) hk ek)) Au
  ·exact Oz (w:=(w.newS.s_sn (w.ns + 1))) (xs:=w.crew) rfl hcl
 apply Ak
 ·apply Bo
  apply Aw
  ·apply Ae
   ·apply Jp
    ·exact Bk (Ax (Ac m1) Ah (Mw (w:=((w.newS.s_sn (w.ns + 1)).s_crew (w.crew++[.int t.num]))) hpat))
    ·exact Df rfl (Ac m3)
   ·apply Ae
    ·apply Cj
     ·exact Ae (Ax (Ac m2) Ah (Em (w:=((w.newS.s_sn (w.ns + 1)).s_crew (w.crew++[.int t.num]))) hx)) Au
     ·exact Nat.le_of_ble_eq_true rfl
    ·exact Au
  ·apply Akg
   ·exact hk
   ·exact ek
   ·exact hst
   ·exact hp
   ·exact ep
   ·exact hpk
 apply A8
 apply B7
 apply Ax
 ·exact Ac m1
 ·exact Ah
 ·exact Mw hpat
theorem Yp {w:Ws} {m:B1} {p k:Nat} {t tp:TS} (m1:m.lookup "mill" = some (.id .mill)) (m2:m.lookup "stage" = some (.id .source)) (m3:m.lookup "task" = some (.id (.task p))) (hs:w.sn=w.ns) (hl2:w.ns < 50) (hx:w.snext=.id (.task k)) (hk:k < w.n) (ek:w.T k=t) (hst:t.st = "fresh") (hcl:w.crew.length < 1000000) (hp:p < w.n) (ep:w.T p=tp) (hpk:p≠k) (hpat:w.pat=false):R8 m (toA w)=some (.ret (.bool false),m,toA (((w.newS.s_sn (w.ns + 1)).s_crew (w.crew++[.int t.num])).setT k ((t.s_st "ready").s_act .none))):=by
 unfold R8
 apply Ak
 ·apply Bo
  apply Dv
  ·exact Ax (Ac m1) Ah rfl
  ·exact Cv rfl
  ·exact Ae (Aa3 hs) Au
  ·exact I8 (w:=w.newS) (k:=w.ns) hs (by lia)
 apply Ak
 ·apply Bo
  apply Dv
  ·exact Ax (Ac m1) Ah rfl
  ·exact Cv rfl
  ·exact Ae (Ay (Ax (Ac m2) Ah (Em (w:=(w.newS.s_sn (w.ns + 1))) hx)) (Fw (w:=(w.newS.s_sn (w.ns + 1))) hk ek)) Au
  ·exact Oz (w:=(w.newS.s_sn (w.ns + 1))) (xs:=w.crew) rfl hcl
 apply Ak
 ·apply Bo
  apply Aw
  ·apply Ae
   ·apply Jp
    ·exact Bk (Ax (Ac m1) Ah (Mw (w:=((w.newS.s_sn (w.ns + 1)).s_crew (w.crew++[.int t.num]))) hpat))
    ·exact Dj rfl Ah
   ·apply Ae
    ·apply Cj
     ·exact Ae (Ax (Ac m2) Ah (Em (w:=((w.newS.s_sn (w.ns + 1)).s_crew (w.crew++[.int t.num]))) hx)) Au
     ·exact Nat.le_of_ble_eq_true rfl
    ·exact Au
  ·apply Aei
   ·exact hk
   ·exact ek
   ·exact hst
 apply A8
 apply B7
 apply Ax
 ·exact Ac m1
 ·exact Ah
 ·exact Mw hpat
theorem Ys {w:Ws} {m:B1} {p k s:Nat} {t tp:TS} (m1:m.lookup "mill" = some (.id .mill)) (m2:m.lookup "stage" = some (.id (.stage s))) (m3:m.lookup "task" = some (.id (.task p))) (hs:w.sn=w.ns) (hl2:w.ns < 50) (hsp:s < w.ns) (hx:(w.S s).next=.id (.task k)) (hk:k < w.n) (ek:w.T k=t) (hst:t.st = "fresh") (hcl:w.crew.length < 1000000) (hp:p < w.n) (ep:w.T p=tp) (hpk:p≠k) (hpat:w.pat=true):R8 m (toA w)=some (.ret (.bool true),m,toA ((((w.newS.s_sn (w.ns + 1)).s_crew (w.crew++[.int t.num])).setT k ((t.s_st "ready").s_act (.id (.task p)))).setT p ((tp.s_pend (tp.pend + 1)).s_st "activating"))):=by
 unfold R8
 apply Ak
 ·apply Bo
  apply Dv
  ·exact Ax (Ac m1) Ah rfl
  ·exact Cv rfl
  ·exact Ae (Aa3 hs) Au
  ·exact I8 (w:=w.newS) (k:=w.ns) hs (by lia)
 apply Ak
 ·apply Bo
  apply Dv
  ·exact Ax (Ac m1) Ah rfl
  ·exact Cv rfl
  ·exact Ae (Ay (Ax (Ac m2) Ah (Ge (w:=(w.newS.s_sn (w.ns + 1))) (Nat.lt_succ_of_lt hsp) ((congrArg SS.next (Av w.S M2 (Nat.ne_of_lt hsp))).trans hx))) (Fw (w:=(w.newS.s_sn (w.ns + 1))) hk ek)) Au
  ·exact Oz (w:=(w.newS.s_sn (w.ns + 1))) (xs:=w.crew) rfl hcl
 apply Ak
 ·apply Bo
  apply Aw
  ·apply Ae
   ·apply Jp
    ·exact Bk (Ax (Ac m1) Ah (Mw (w:=((w.newS.s_sn (w.ns + 1)).s_crew (w.crew++[.int t.num]))) hpat))
    ·exact Df rfl (Ac m3)
   ·apply Ae
    ·apply Cj
     ·exact Ae (Ax (Ac m2) Ah (Ge (w:=((w.newS.s_sn (w.ns + 1)).s_crew (w.crew++[.int t.num]))) (Nat.lt_succ_of_lt hsp) ((congrArg SS.next (Av w.S M2 (Nat.ne_of_lt hsp))).trans hx))) Au
     ·exact Nat.le_of_ble_eq_true rfl
    ·exact Au
  ·apply Akg
   ·exact hk
   ·exact ek
   ·exact hst
   ·exact hp
   ·exact ep
   ·exact hpk
 apply A8
 apply B7
 apply Ax
 ·exact Ac m1
 ·exact Ah
 ·exact Mw hpat
theorem Yr {w:Ws} {m:B1} {p k s:Nat} {t tp:TS} (m1:m.lookup "mill" = some (.id .mill)) (m2:m.lookup "stage" = some (.id (.stage s))) (m3:m.lookup "task" = some (.id (.task p))) (hs:w.sn=w.ns) (hl2:w.ns < 50) (hsp:s < w.ns) (hx:(w.S s).next=.id (.task k)) (hk:k < w.n) (ek:w.T k=t) (hst:t.st = "fresh") (hcl:w.crew.length < 1000000) (hp:p < w.n) (ep:w.T p=tp) (hpk:p≠k) (hpat:w.pat=false):R8 m (toA w)=some (.ret (.bool false),m,toA (((w.newS.s_sn (w.ns + 1)).s_crew (w.crew++[.int t.num])).setT k ((t.s_st "ready").s_act .none))):=by
 unfold R8
 apply Ak
 ·apply Bo
  apply Dv
  ·exact Ax (Ac m1) Ah rfl
  ·exact Cv rfl
  ·exact Ae (Aa3 hs) Au
  ·exact I8 (w:=w.newS) (k:=w.ns) hs (by lia)
 apply Ak
 ·apply Bo
  apply Dv
  ·exact Ax (Ac m1) Ah rfl
  ·exact Cv rfl
  ·exact Ae (Ay (Ax (Ac m2) Ah (Ge (w:=(w.newS.s_sn (w.ns + 1))) (Nat.lt_succ_of_lt hsp) ((congrArg SS.next (Av w.S M2 (Nat.ne_of_lt hsp))).trans hx))) (Fw (w:=(w.newS.s_sn (w.ns + 1))) hk ek)) Au
  ·exact Oz (w:=(w.newS.s_sn (w.ns + 1))) (xs:=w.crew) rfl hcl
 apply Ak
 ·apply Bo
  apply Aw
  ·apply Ae
   ·apply Jp
    ·exact Bk (Ax (Ac m1) Ah (Mw (w:=((w.newS.s_sn (w.ns + 1)).s_crew (w.crew++[.int t.num]))) hpat))
    ·exact Dj rfl Ah
   ·apply Ae
    ·apply Cj
     ·exact Ae (Ax (Ac m2) Ah (Ge (w:=((w.newS.s_sn (w.ns + 1)).s_crew (w.crew++[.int t.num]))) (Nat.lt_succ_of_lt hsp) ((congrArg SS.next (Av w.S M2 (Nat.ne_of_lt hsp))).trans hx))) Au
     ·exact Nat.le_of_ble_eq_true rfl
    ·exact Au
  ·apply Aei
   ·exact hk
   ·exact ek
   ·exact hst
 apply A8
 apply B7
 apply Ax
 ·exact Ac m1
 ·exact Ah
 ·exact Mw hpat
noncomputable def P4 (w:Ws) (p:Nat):Ws:=(((((w.s_nums (w.nums + 1)).newT (Dr (w.nums + 1) "stage" (.id .lib))).s_lib (w.lib.s_deps (w.lib.deps++[.id (.task w.n)]))).s_tn (w.n + 1)).s_snext (.id (.task w.n)))
theorem Xm {w:Ws} {p:Nat} {tp:TS} (hn:w.tn=w.n) (hl:w.n < 50) (hs:w.sn=w.ns) (hl2:w.ns < 50) (hp:p < w.n) (ep:w.T p=tp) (hcl:w.crew.length < 1000000) (hnest:w.nested=false) (hpat:w.pat=false) (hd:w.lib.deps.length < 1000000) :
  En [.id .mill,.id (.task p),.id .source] (toA w)=some (.bool false,toA (w.growL false p tp w.S (.id (.task w.n)))):=by
 have hns:(P4 w p).ns=w.ns:=by kernel_rfl
 have hsn:(P4 w p).sn=w.sn:=by kernel_rfl
 have hnn:(P4 w p).n=w.n + 1:=by kernel_rfl
 have hcr:(P4 w p).crew=w.crew:=by kernel_rfl
 have hpp:(P4 w p).pat=w.pat:=by kernel_rfl
 have hnx:((P4 w p)).snext=.id (.task w.n):=by kernel_rfl
 have ht:=Yp (w:=(P4 w p)) (k:=w.n) (t:=Dr (w.nums + 1) "stage" (.id .lib)) (tp:=tp) rfl rfl rfl (hsn.trans (hs.trans hns.symm)) (by rw [hns]; exact hl2) hnx (by rw [hnn]; exact Nat.lt_succ_self _) (Al w.T w.n _) rfl (by rw [hcr]; exact hcl) (by rw [hnn]; exact Nat.lt_succ_of_lt hp) ((Av w.T _ (Nat.ne_of_lt hp)).trans ep) (Nat.ne_of_lt hp) (hpp.trans hpat) (m:=Bd (Dc ["mill", "task", "stage"] [.id .mill,.id (.task p),.id .source]) "master" (.id .lib)) (p:=p)
 apply Eq.trans
 ·apply Bv rfl
  unfold Er
  apply Ak
  ·exact A7 (Ay (Ax (Ac rfl) Ah rfl) rfl)
  apply Ak
  ·apply Br
   ·exact Bk (Ax (Ac rfl) Ah (Jh hnest))
   exact Ar
  apply Ak
  ·apply Dt
   ·apply Aw
    ·exact Ae (Ax (Ac rfl) Ah rfl) (Ae Ah (Ae (Ac rfl) (Ae Ah Au)))
    ·exact I6 hn hl hd
   ·exact Ac rfl
   ·exact Ah
   ·exact Td
  exact ht
 ·refine L3 (L0 ?_ (by kernel_rfl) ?_ (by kernel_rfl))
  ·show updN (updN w.T w.n _) w.n _=updN w.T w.n _
   rw [Cb]; rfl
  ·kernel_rfl
theorem Xn {w:Ws} {p:Nat} {tp:TS} (hn:w.tn=w.n) (hl:w.n < 50) (hs:w.sn=w.ns) (hl2:w.ns < 50) (hp:p < w.n) (ep:w.T p=tp) (hcl:w.crew.length < 1000000) (hnest:w.nested=false) (hpat:w.pat=true) (hd:w.lib.deps.length < 1000000) :
  En [.id .mill,.id (.task p),.id .source] (toA w)=some (.bool true,toA (w.growL true p tp w.S (.id (.task w.n)))):=by
 have hns:(P4 w p).ns=w.ns:=by kernel_rfl
 have hsn:(P4 w p).sn=w.sn:=by kernel_rfl
 have hnn:(P4 w p).n=w.n + 1:=by kernel_rfl
 have hcr:(P4 w p).crew=w.crew:=by kernel_rfl
 have hpp:(P4 w p).pat=w.pat:=by kernel_rfl
 have hnx:((P4 w p)).snext=.id (.task w.n):=by kernel_rfl
 have ht:=Yq (w:=(P4 w p)) (k:=w.n) (t:=Dr (w.nums + 1) "stage" (.id .lib)) (tp:=tp) rfl rfl rfl (hsn.trans (hs.trans hns.symm)) (by rw [hns]; exact hl2) hnx (by rw [hnn]; exact Nat.lt_succ_self _) (Al w.T w.n _) rfl (by rw [hcr]; exact hcl) (by rw [hnn]; exact Nat.lt_succ_of_lt hp) ((Av w.T _ (Nat.ne_of_lt hp)).trans ep) (Nat.ne_of_lt hp) (hpp.trans hpat) (m:=Bd (Dc ["mill", "task", "stage"] [.id .mill,.id (.task p),.id .source]) "master" (.id .lib)) (p:=p)
 apply Eq.trans
 ·apply Bv rfl
  unfold Er
  apply Ak
  ·exact A7 (Ay (Ax (Ac rfl) Ah rfl) rfl)
  apply Ak
  ·apply Br
   ·exact Bk (Ax (Ac rfl) Ah (Jh hnest))
   exact Ar
  apply Ak
  ·apply Dt
   ·apply Aw
    ·exact Ae (Ax (Ac rfl) Ah rfl) (Ae Ah (Ae (Ac rfl) (Ae Ah Au)))
    ·exact I6 hn hl hd
   ·exact Ac rfl
   ·exact Ah
   ·exact Td
  exact ht
 ·refine L3 (L0 ?_ (by kernel_rfl) ?_ (by kernel_rfl))
  ·show updN (updN (updN w.T w.n _) w.n _) p _=updN (updN w.T w.n _) p _
   rw [Cb]; rfl
  ·kernel_rfl
noncomputable def P5 (w:Ws) (p:Nat):Ws:=((((((((w.s_nums (w.nums + 1)).setM p ⟨w.nums + 1,false,[]⟩).setms p [.id (.master p)]).s_nums (w.nums + 1 + 1)).newT (Dr (w.nums + 1 + 1) "stage" (.id (.master p)))).setM p ((⟨w.nums + 1,false,[]⟩:MS).s_deps ([]++[.id (.task w.n)]))).s_tn (w.n + 1)).s_snext (.id (.task w.n)))
theorem Xo {w:Ws} {p:Nat} {tp:TS} (hn:w.tn=w.n) (hl:w.n < 50) (hs:w.sn=w.ns) (hl2:w.ns < 50) (hp:p < w.n) (ep:w.T p=tp) (hcl:w.crew.length < 1000000) (hnest:w.nested=true) (hpat:w.pat=false) (hM:w.M p=none) (hms:w.ms p=[]) :
  En [.id .mill,.id (.task p),.id .source] (toA w)=some (.bool false,toA (w.growM false p tp w.S (.id (.task w.n)))):=by
 have hns:(P5 w p).ns=w.ns:=by kernel_rfl
 have hsn:(P5 w p).sn=w.sn:=by kernel_rfl
 have hnn:(P5 w p).n=w.n + 1:=by kernel_rfl
 have hcr:(P5 w p).crew=w.crew:=by kernel_rfl
 have hpp:(P5 w p).pat=w.pat:=by kernel_rfl
 have hnx:((P5 w p)).snext=.id (.task w.n):=by kernel_rfl
 have ht:=Yp (w:=(P5 w p)) (k:=w.n) (t:=Dr (w.nums + 1 + 1) "stage" (.id (.master p))) (tp:=tp) rfl rfl rfl (hsn.trans (hs.trans hns.symm)) (by rw [hns]; exact hl2) hnx (by rw [hnn]; exact Nat.lt_succ_self _) (Al w.T w.n _) rfl (by rw [hcr]; exact hcl) (by rw [hnn]; exact Nat.lt_succ_of_lt hp) ((Av w.T _ (Nat.ne_of_lt hp)).trans ep) (Nat.ne_of_lt hp) (hpp.trans hpat) (m:=Bd (Bd (Dc ["mill", "task", "stage"] [.id .mill,.id (.task p),.id .source]) "master" (.id .lib)) "master" (.id (.master p))) (p:=p)
 apply Eq.trans
 ·apply Bv rfl
  unfold Er
  apply Ak
  ·exact A7 (Ay (Ax (Ac rfl) Ah rfl) rfl)
  apply Ak
  ·apply Cw
   ·exact Bk (Ax (Ac rfl) Ah (Jh hnest))
   apply Ak
   ·exact A7 (Aw (Ae (Ax (Ac rfl) Ah rfl) (Ae (Ac rfl) Au)) (Hf hp hM hms))
   exact Ar
  apply Ak
  ·apply Dt
   ·apply Aw
    ·exact Ae (Ax (Ac rfl) Ah rfl) (Ae Ah (Ae (Ac rfl) (Ae Ah Au)))
    ·exact L1 (w:=(((w.s_nums (w.nums + 1)).setM p ⟨w.nums + 1,false,[]⟩).setms p [.id (.master p)])) hn hl hp (Al _ _ _) (Nat.zero_lt_succ _)
   ·exact Ac rfl
   ·exact Ah
   ·exact Td
  exact ht
 ·refine L3 (L0 ?_ (by kernel_rfl) ?_ (by kernel_rfl))
  ·show updN (updN w.T w.n _) w.n _=updN w.T w.n _
   rw [Cb]; rfl
  ·show updN (updN w.M p _) p _=updN w.M p _
   rw [Cb]; rfl
theorem Xp {w:Ws} {p:Nat} {tp:TS} (hn:w.tn=w.n) (hl:w.n < 50) (hs:w.sn=w.ns) (hl2:w.ns < 50) (hp:p < w.n) (ep:w.T p=tp) (hcl:w.crew.length < 1000000) (hnest:w.nested=true) (hpat:w.pat=true) (hM:w.M p=none) (hms:w.ms p=[]) :
  En [.id .mill,.id (.task p),.id .source] (toA w)=some (.bool true,toA (w.growM true p tp w.S (.id (.task w.n)))):=by
 have hns:(P5 w p).ns=w.ns:=by kernel_rfl
 have hsn:(P5 w p).sn=w.sn:=by kernel_rfl
 have hnn:(P5 w p).n=w.n + 1:=by kernel_rfl
 have hcr:(P5 w p).crew=w.crew:=by kernel_rfl
 have hpp:(P5 w p).pat=w.pat:=by kernel_rfl
 have hnx:((P5 w p)).snext=.id (.task w.n):=by kernel_rfl
 have ht:=Yq (w:=(P5 w p)) (k:=w.n) (t:=Dr (w.nums + 1 + 1) "stage" (.id (.master p))) (tp:=tp) rfl rfl rfl (hsn.trans (hs.trans hns.symm)) (by rw [hns]; exact hl2) hnx (by rw [hnn]; exact Nat.lt_succ_self _) (Al w.T w.n _) rfl (by rw [hcr]; exact hcl) (by rw [hnn]; exact Nat.lt_succ_of_lt hp) ((Av w.T _ (Nat.ne_of_lt hp)).trans ep) (Nat.ne_of_lt hp) (hpp.trans hpat) (m:=Bd (Bd (Dc ["mill", "task", "stage"] [.id .mill,.id (.task p),.id .source]) "master" (.id .lib)) "master" (.id (.master p))) (p:=p)
 apply Eq.trans
 ·apply Bv rfl
  unfold Er
  apply Ak
  ·exact A7 (Ay (Ax (Ac rfl) Ah rfl) rfl)
  apply Ak
  ·apply Cw
   ·exact Bk (Ax (Ac rfl) Ah (Jh hnest))
   apply Ak
   ·exact A7 (Aw (Ae (Ax (Ac rfl) Ah rfl) (Ae (Ac rfl) Au)) (Hf hp hM hms))
   exact Ar
  apply Ak
  ·apply Dt
   ·apply Aw
    ·exact Ae (Ax (Ac rfl) Ah rfl) (Ae Ah (Ae (Ac rfl) (Ae Ah Au)))
    ·exact L1 (w:=(((w.s_nums (w.nums + 1)).setM p ⟨w.nums + 1,false,[]⟩).setms p [.id (.master p)])) hn hl hp (Al _ _ _) (Nat.zero_lt_succ _)
   ·exact Ac rfl
   ·exact Ah
   ·exact Td
  exact ht
 ·refine L3 (L0 ?_ (by kernel_rfl) ?_ (by kernel_rfl))
  ·show updN (updN (updN w.T w.n _) w.n _) p _=updN (updN w.T w.n _) p _
   rw [Cb]; rfl
  ·show updN (updN w.M p _) p _=updN w.M p _
   rw [Cb]; rfl
noncomputable def Su (w:Ws) (p s:Nat) (ss:SS):Ws:=(((((w.s_nums (w.nums + 1)).newT (Dr (w.nums + 1) "stage" (.id .lib))).s_lib (w.lib.s_deps (w.lib.deps++[.id (.task w.n)]))).s_tn (w.n + 1)).setS s (ss.s_next (.id (.task w.n))))
theorem Xq {w:Ws} {p s:Nat} {tp:TS} {ss:SS} (hn:w.tn=w.n) (hl:w.n < 50) (hs:w.sn=w.ns) (hl2:w.ns < 50) (hp:p < w.n) (ep:w.T p=tp) (hcl:w.crew.length < 1000000) (hnest:w.nested=false) (hpat:w.pat=false) (hd:w.lib.deps.length < 1000000) (hsp:s < w.ns) (eS:w.S s=ss) :
  En [.id .mill,.id (.task p),.id (.stage s)] (toA w)=some (.bool false,toA (w.growL false p tp (updN w.S s (ss.s_next (.id (.task w.n)))) w.snext)):=by
 have hns:(Su w p s ss).ns=w.ns:=by kernel_rfl
 have hsn:(Su w p s ss).sn=w.sn:=by kernel_rfl
 have hnn:(Su w p s ss).n=w.n + 1:=by kernel_rfl
 have hcr:(Su w p s ss).crew=w.crew:=by kernel_rfl
 have hpp:(Su w p s ss).pat=w.pat:=by kernel_rfl
 have ht:=Yr (w:=(Su w p s ss)) (k:=w.n) (t:=Dr (w.nums + 1) "stage" (.id .lib)) (tp:=tp) rfl rfl rfl (hsn.trans (hs.trans hns.symm)) (by rw [hns]; exact hl2) (by rw [hns]; exact hsp) (congrArg SS.next (Al w.S s _)) (by rw [hnn]; exact Nat.lt_succ_self _) (Al w.T w.n _) rfl (by rw [hcr]; exact hcl) (by rw [hnn]; exact Nat.lt_succ_of_lt hp) ((Av w.T _ (Nat.ne_of_lt hp)).trans ep) (Nat.ne_of_lt hp) (hpp.trans hpat) (m:=Bd (Dc ["mill", "task", "stage"] [.id .mill,.id (.task p),.id (.stage s)]) "master" (.id .lib)) (p:=p)
 apply Eq.trans
 ·apply Bv rfl
  unfold Er
  apply Ak
  ·exact A7 (Ay (Ax (Ac rfl) Ah rfl) rfl)
  apply Ak
  ·apply Br
   ·exact Bk (Ax (Ac rfl) Ah (Jh hnest))
   exact Ar
  apply Ak
  ·apply Dt
   ·apply Aw
    ·exact Ae (Ax (Ac rfl) Ah rfl) (Ae Ah (Ae (Ac rfl) (Ae Ah Au)))
    ·exact I6 hn hl hd
   ·exact Ac rfl
   ·exact Ah
   ·apply Te
    ·exact hsp
    ·exact eS
  exact ht
 ·refine L3 (L0 ?_ (by kernel_rfl) ?_ (by kernel_rfl))
  ·show updN (updN w.T w.n _) w.n _=updN w.T w.n _
   rw [Cb]; rfl
  ·kernel_rfl
theorem Xr {w:Ws} {p s:Nat} {tp:TS} {ss:SS} (hn:w.tn=w.n) (hl:w.n < 50) (hs:w.sn=w.ns) (hl2:w.ns < 50) (hp:p < w.n) (ep:w.T p=tp) (hcl:w.crew.length < 1000000) (hnest:w.nested=false) (hpat:w.pat=true) (hd:w.lib.deps.length < 1000000) (hsp:s < w.ns) (eS:w.S s=ss) :
  En [.id .mill,.id (.task p),.id (.stage s)] (toA w)=some (.bool true,toA (w.growL true p tp (updN w.S s (ss.s_next (.id (.task w.n)))) w.snext)):=by
 have hns:(Su w p s ss).ns=w.ns:=by kernel_rfl
 have hsn:(Su w p s ss).sn=w.sn:=by kernel_rfl
 have hnn:(Su w p s ss).n=w.n + 1:=by kernel_rfl
 have hcr:(Su w p s ss).crew=w.crew:=by kernel_rfl
 have hpp:(Su w p s ss).pat=w.pat:=by kernel_rfl
 have ht:=Ys (w:=(Su w p s ss)) (k:=w.n) (t:=Dr (w.nums + 1) "stage" (.id .lib)) (tp:=tp) rfl rfl rfl (hsn.trans (hs.trans hns.symm)) (by rw [hns]; exact hl2) (by rw [hns]; exact hsp) (congrArg SS.next (Al w.S s _)) (by rw [hnn]; exact Nat.lt_succ_self _) (Al w.T w.n _) rfl (by rw [hcr]; exact hcl) (by rw [hnn]; exact Nat.lt_succ_of_lt hp) ((Av w.T _ (Nat.ne_of_lt hp)).trans ep) (Nat.ne_of_lt hp) (hpp.trans hpat) (m:=Bd (Dc ["mill", "task", "stage"] [.id .mill,.id (.task p),.id (.stage s)]) "master" (.id .lib)) (p:=p)
 apply Eq.trans
 ·apply Bv rfl
  unfold Er
  apply Ak
  ·exact A7 (Ay (Ax (Ac rfl) Ah rfl) rfl)
  apply Ak
  ·apply Br
   ·exact Bk (Ax (Ac rfl) Ah (Jh hnest))
   exact Ar
  apply Ak
  ·apply Dt
   ·apply Aw
    ·exact Ae (Ax (Ac rfl) Ah rfl) (Ae Ah (Ae (Ac rfl) (Ae Ah Au)))
    ·exact I6 hn hl hd
   ·exact Ac rfl
   ·exact Ah
   ·apply Te
    ·exact hsp
    ·exact eS
  exact ht
 ·refine L3 (L0 ?_ (by kernel_rfl) ?_ (by kernel_rfl))
  ·show updN (updN (updN w.T w.n _) w.n _) p _=updN (updN w.T w.n _) p _
   rw [Cb]; rfl
  ·kernel_rfl
noncomputable def Sv (w:Ws) (p s:Nat) (ss:SS):Ws:=((((((((w.s_nums (w.nums + 1)).setM p ⟨w.nums + 1,false,[]⟩).setms p [.id (.master p)]).s_nums (w.nums + 1 + 1)).newT (Dr (w.nums + 1 + 1) "stage" (.id (.master p)))).setM p ((⟨w.nums + 1,false,[]⟩:MS).s_deps ([]++[.id (.task w.n)]))).s_tn (w.n + 1)).setS s (ss.s_next (.id (.task w.n))))
theorem Xs {w:Ws} {p s:Nat} {tp:TS} {ss:SS} (hn:w.tn=w.n) (hl:w.n < 50) (hs:w.sn=w.ns) (hl2:w.ns < 50) (hp:p < w.n) (ep:w.T p=tp) (hcl:w.crew.length < 1000000) (hnest:w.nested=true) (hpat:w.pat=false) (hM:w.M p=none) (hms:w.ms p=[]) (hsp:s < w.ns) (eS:w.S s=ss) :
  En [.id .mill,.id (.task p),.id (.stage s)] (toA w)=some (.bool false,toA (w.growM false p tp (updN w.S s (ss.s_next (.id (.task w.n)))) w.snext)):=by
 have hns:(Sv w p s ss).ns=w.ns:=by kernel_rfl
 have hsn:(Sv w p s ss).sn=w.sn:=by kernel_rfl
 have hnn:(Sv w p s ss).n=w.n + 1:=by kernel_rfl
 have hcr:(Sv w p s ss).crew=w.crew:=by kernel_rfl
 have hpp:(Sv w p s ss).pat=w.pat:=by kernel_rfl
 have ht:=Yr (w:=(Sv w p s ss)) (k:=w.n) (t:=Dr (w.nums + 1 + 1) "stage" (.id (.master p))) (tp:=tp) rfl rfl rfl (hsn.trans (hs.trans hns.symm)) (by rw [hns]; exact hl2) (by rw [hns]; exact hsp) (congrArg SS.next (Al w.S s _)) (by rw [hnn]; exact Nat.lt_succ_self _) (Al w.T w.n _) rfl (by rw [hcr]; exact hcl) (by rw [hnn]; exact Nat.lt_succ_of_lt hp) ((Av w.T _ (Nat.ne_of_lt hp)).trans ep) (Nat.ne_of_lt hp) (hpp.trans hpat) (m:=Bd (Bd (Dc ["mill", "task", "stage"] [.id .mill,.id (.task p),.id (.stage s)]) "master" (.id .lib)) "master" (.id (.master p))) (p:=p)
 apply Eq.trans
 ·apply Bv rfl
  unfold Er
  apply Ak
  ·exact A7 (Ay (Ax (Ac rfl) Ah rfl) rfl)
  apply Ak
  ·apply Cw
   ·exact Bk (Ax (Ac rfl) Ah (Jh hnest))
   apply Ak
   ·exact A7 (Aw (Ae (Ax (Ac rfl) Ah rfl) (Ae (Ac rfl) Au)) (Hf hp hM hms))
   exact Ar
  apply Ak
  ·apply Dt
   ·apply Aw
    ·exact Ae (Ax (Ac rfl) Ah rfl) (Ae Ah (Ae (Ac rfl) (Ae Ah Au)))
    ·exact L1 (w:=(((w.s_nums (w.nums + 1)).setM p ⟨w.nums + 1,false,[]⟩).setms p [.id (.master p)])) hn hl hp (Al _ _ _) (Nat.zero_lt_succ _)
   ·exact Ac rfl
   ·exact Ah
   ·apply Te
    ·exact hsp
    ·exact eS
  exact ht
 ·refine L3 (L0 ?_ (by kernel_rfl) ?_ (by kernel_rfl))
  ·show updN (updN w.T w.n _) w.n _=updN w.T w.n _
   rw [Cb]; rfl
  ·show updN (updN w.M p _) p _=updN w.M p _
   rw [Cb]; rfl
theorem Xu {w:Ws} {p s:Nat} {tp:TS} {ss:SS} (hn:w.tn=w.n) (hl:w.n < 50) (hs:w.sn=w.ns) (hl2:w.ns < 50) (hp:p < w.n) (ep:w.T p=tp) (hcl:w.crew.length < 1000000) (hnest:w.nested=true) (hpat:w.pat=true) (hM:w.M p=none) (hms:w.ms p=[]) (hsp:s < w.ns) (eS:w.S s=ss) :
  En [.id .mill,.id (.task p),.id (.stage s)] (toA w)=some (.bool true,toA (w.growM true p tp (updN w.S s (ss.s_next (.id (.task w.n)))) w.snext)):=by
 have hns:(Sv w p s ss).ns=w.ns:=by kernel_rfl
 have hsn:(Sv w p s ss).sn=w.sn:=by kernel_rfl
 have hnn:(Sv w p s ss).n=w.n + 1:=by kernel_rfl
 have hcr:(Sv w p s ss).crew=w.crew:=by kernel_rfl
 have hpp:(Sv w p s ss).pat=w.pat:=by kernel_rfl
 have ht:=Ys (w:=(Sv w p s ss)) (k:=w.n) (t:=Dr (w.nums + 1 + 1) "stage" (.id (.master p))) (tp:=tp) rfl rfl rfl (hsn.trans (hs.trans hns.symm)) (by rw [hns]; exact hl2) (by rw [hns]; exact hsp) (congrArg SS.next (Al w.S s _)) (by rw [hnn]; exact Nat.lt_succ_self _) (Al w.T w.n _) rfl (by rw [hcr]; exact hcl) (by rw [hnn]; exact Nat.lt_succ_of_lt hp) ((Av w.T _ (Nat.ne_of_lt hp)).trans ep) (Nat.ne_of_lt hp) (hpp.trans hpat) (m:=Bd (Bd (Dc ["mill", "task", "stage"] [.id .mill,.id (.task p),.id (.stage s)]) "master" (.id .lib)) "master" (.id (.master p))) (p:=p)
 apply Eq.trans
 ·apply Bv rfl
  unfold Er
  apply Ak
  ·exact A7 (Ay (Ax (Ac rfl) Ah rfl) rfl)
  apply Ak
  ·apply Cw
   ·exact Bk (Ax (Ac rfl) Ah (Jh hnest))
   apply Ak
   ·exact A7 (Aw (Ae (Ax (Ac rfl) Ah rfl) (Ae (Ac rfl) Au)) (Hf hp hM hms))
   exact Ar
  apply Ak
  ·apply Dt
   ·apply Aw
    ·exact Ae (Ax (Ac rfl) Ah rfl) (Ae Ah (Ae (Ac rfl) (Ae Ah Au)))
    ·exact L1 (w:=(((w.s_nums (w.nums + 1)).setM p ⟨w.nums + 1,false,[]⟩).setms p [.id (.master p)])) hn hl hp (Al _ _ _) (Nat.zero_lt_succ _)
   ·exact Ac rfl
   ·exact Ah
   ·apply Te
    ·exact hsp
    ·exact eS
  exact ht
 ·refine L3 (L0 ?_ (by kernel_rfl) ?_ (by kernel_rfl))
  ·show updN (updN (updN w.T w.n _) w.n _) p _=updN (updN w.T w.n _) p _
   rw [Cb]; rfl
  ·show updN (updN w.M p _) p _=updN w.M p _
   rw [Cb]; rfl
theorem M7 {σ:AS}:cIs σ .none .none=some true:=rfl
theorem Aff {σ:AS} {i:Id}:cIs σ (.id i) .none=some false:=rfl
theorem Np {w:Ws} {s:Nat} {v:AVal} (hs:s < w.ns) (h:(w.S s).hand=v):(toA w).item (.id (.stage s)) (.str "hand")=some v:=(Ak9 hs rfl).trans (congrArg some h)
theorem Vp {w:Ws} {v:AVal} {p:Nat} {tp:TS} (hn:w.tn=w.n) (hl:w.n < 50) (hs:w.sn=w.ns) (hl2:w.ns < 50) (hp:p < w.n) (ep:w.T p=tp) (hcl:w.crew.length < 1000000) (hnest:w.nested=false) (hpat:w.pat=false) (hd:w.lib.deps.length < 1000000) (hx:w.snext=.none) (hh:w.shand=v) (hG:w.G w.gn=none) (hG1:w.G (w.gn + 1)=none):Bp [.id .mill,.id (.task p),.id .source] (toA w)=some (.none,toA (((w.growL false p tp w.S (.id (.task w.n))).s_sdoes "send").callB p w.n tp (.flist [v]))):=by
 apply Ch rfl
 unfold Ci
 apply Ak
 ·apply Br
  ·apply B2
   ·apply A4
    ·apply Ax
     ·exact Ac rfl
     ·exact Ah
     ·exact Em hx
    ·exact Ah
    ·exact M7
   ·apply Df rfl
    apply B2
    ·apply Bk
     apply Aw
     ·exact Ae (Ac rfl) (Ae (Ac rfl) (Ae (Ac rfl) Au))
     ·exact Xm hn hl hs hl2 hp ep hcl hnest hpat hd
    ·exact Dj rfl rfl
  exact Ar
 apply Ak
 ·apply Dt
  ·exact Ah
  ·exact Ac rfl
  ·exact Ah
  ·exact Tc
 apply Ak
 ·apply Bo
  apply Aw
  ·apply Ae
   ·exact Ax (Ac rfl) Ah rfl
   apply Ae
   ·exact Ac rfl
   apply Ae
   ·apply Ax
    ·exact Ac rfl
    ·exact Ah
    ·exact Em rfl
   apply Ae
   ·exact Ah
   apply Ae
   ·apply Cj
    ·apply Ae
     ·apply Ax
      ·exact Ac rfl
      ·exact Ah
      ·exact Fx hh
     exact Au
    ·exact Nat.le_of_ble_eq_true rfl
   exact Ae Ah Au
  ·apply Kx
   ·exact Nat.lt_succ_of_lt hp
   ·exact Nat.lt_succ_self _
   ·exact Nat.ne_of_gt hp
   ·exact (Av _ _ (Nat.ne_of_lt hp)).trans ep
   ·exact Al _ _ _
   ·exact (show ("ready" : String) ≠ "completed" by decide)
   ·exact (show ("ready" : String) ≠ "done" by decide)
   ·exact hG
   ·exact Al _ _ _
   ·exact (show ("ready" : String) ≠ "accepting" by decide)
   ·exact hG1
 exact Ar
theorem Vq {w:Ws} {p:Nat} {tp:TS} (hn:w.tn=w.n) (hl:w.n < 50) (hs:w.sn=w.ns) (hl2:w.ns < 50) (hp:p < w.n) (ep:w.T p=tp) (hcl:w.crew.length < 1000000) (hnest:w.nested=false) (hpat:w.pat=true) (hd:w.lib.deps.length < 1000000) (hx:w.snext=.none):Bp [.id .mill,.id (.task p),.id .source] (toA w)=some (.none,toA (w.growL true p tp w.S (.id (.task w.n)))):=by
 apply Bv rfl
 unfold Ci
 apply A8
 apply Cw
 ·apply B2
  ·apply A4
   ·apply Ax
    ·exact Ac rfl
    ·exact Ah
    ·exact Em hx
   ·exact Ah
   ·exact M7
  ·apply Df rfl
   apply B2
   ·apply Bk
    apply Aw
    ·exact Ae (Ac rfl) (Ae (Ac rfl) (Ae (Ac rfl) Au))
    ·exact Xn hn hl hs hl2 hp ep hcl hnest hpat hd
   ·exact Df rfl Ib
 exact A8 (B7 Ah)
theorem Vr {w:Ws} {v:AVal} {p:Nat} {tp:TS} (hn:w.tn=w.n) (hl:w.n < 50) (hs:w.sn=w.ns) (hl2:w.ns < 50) (hp:p < w.n) (ep:w.T p=tp) (hcl:w.crew.length < 1000000) (hnest:w.nested=true) (hpat:w.pat=false) (hM:w.M p=none) (hms:w.ms p=[]) (hx:w.snext=.none) (hh:w.shand=v) (hG:w.G w.gn=none) (hG1:w.G (w.gn + 1)=none):Bp [.id .mill,.id (.task p),.id .source] (toA w)=some (.none,toA (((w.growM false p tp w.S (.id (.task w.n))).s_sdoes "send").callB p w.n tp (.flist [v]))):=by
 apply Ch rfl
 unfold Ci
 apply Ak
 ·apply Br
  ·apply B2
   ·apply A4
    ·apply Ax
     ·exact Ac rfl
     ·exact Ah
     ·exact Em hx
    ·exact Ah
    ·exact M7
   ·apply Df rfl
    apply B2
    ·apply Bk
     apply Aw
     ·exact Ae (Ac rfl) (Ae (Ac rfl) (Ae (Ac rfl) Au))
     ·exact Xo hn hl hs hl2 hp ep hcl hnest hpat hM hms
    ·exact Dj rfl rfl
  exact Ar
 apply Ak
 ·apply Dt
  ·exact Ah
  ·exact Ac rfl
  ·exact Ah
  ·exact Tc
 apply Ak
 ·apply Bo
  apply Aw
  ·apply Ae
   ·exact Ax (Ac rfl) Ah rfl
   apply Ae
   ·exact Ac rfl
   apply Ae
   ·apply Ax
    ·exact Ac rfl
    ·exact Ah
    ·exact Em rfl
   apply Ae
   ·exact Ah
   apply Ae
   ·apply Cj
    ·apply Ae
     ·apply Ax
      ·exact Ac rfl
      ·exact Ah
      ·exact Fx hh
     exact Au
    ·exact Nat.le_of_ble_eq_true rfl
   exact Ae Ah Au
  ·apply Kx
   ·exact Nat.lt_succ_of_lt hp
   ·exact Nat.lt_succ_self _
   ·exact Nat.ne_of_gt hp
   ·exact (Av _ _ (Nat.ne_of_lt hp)).trans ep
   ·exact Al _ _ _
   ·exact (show ("ready" : String) ≠ "completed" by decide)
   ·exact (show ("ready" : String) ≠ "done" by decide)
   ·exact hG
   ·exact Al _ _ _
   ·exact (show ("ready" : String) ≠ "accepting" by decide)
   ·exact hG1
 exact Ar
theorem Vs {w:Ws} {p:Nat} {tp:TS} (hn:w.tn=w.n) (hl:w.n < 50) (hs:w.sn=w.ns) (hl2:w.ns < 50) (hp:p < w.n) (ep:w.T p=tp) (hcl:w.crew.length < 1000000) (hnest:w.nested=true) (hpat:w.pat=true) (hM:w.M p=none) (hms:w.ms p=[]) (hx:w.snext=.none):Bp [.id .mill,.id (.task p),.id .source] (toA w)=some (.none,toA (w.growM true p tp w.S (.id (.task w.n)))):=by
 apply Bv rfl
 unfold Ci
 apply A8
 apply Cw
 ·apply B2
  ·apply A4
   ·apply Ax
    ·exact Ac rfl
    ·exact Ah
    ·exact Em hx
   ·exact Ah
   ·exact M7
  ·apply Df rfl
   apply B2
   ·apply Bk
    apply Aw
    ·exact Ae (Ac rfl) (Ae (Ac rfl) (Ae (Ac rfl) Au))
    ·exact Xp hn hl hs hl2 hp ep hcl hnest hpat hM hms
   ·exact Df rfl Ib
 exact A8 (B7 Ah)
theorem Xi {w:Ws} {v:AVal} {t:Nat} {tt:TS} {p:Nat} {tp:TS} (hp:p < w.n) (ep:w.T p=tp) (htn:t < w.n) (hne:t≠p) (et:w.T t=tt) (hx:w.snext=.id (.task t)) (hh:w.shand=v) (hG:w.G w.gn=none) (h1:tt.st ≠ "completed") (h2:tt.st ≠ "done") (es:w.sv t=[]) (hst:tt.st = "accepting") (ho:tt.op=Me):Bp [.id .mill,.id (.task p),.id .source] (toA w)=some (.none,toA ((w.s_sdoes "send").callA p t tp tt (.flist [v]))):=by
 apply Ch rfl
 unfold Ci
 apply Ak
 ·apply Br
  ·apply B2
   ·apply A4
    ·apply Ax
     ·exact Ac rfl
     ·exact Ah
     ·exact Em hx
    ·exact Ah
    ·exact Aff
   ·exact Dj rfl rfl
  exact Ar
 apply Ak
 ·apply Dt
  ·exact Ah
  ·exact Ac rfl
  ·exact Ah
  ·exact Tc
 apply Ak
 ·apply Bo
  apply Aw
  ·apply Ae
   ·exact Ax (Ac rfl) Ah rfl
   apply Ae
   ·exact Ac rfl
   apply Ae
   ·apply Ax
    ·exact Ac rfl
    ·exact Ah
    ·exact Em hx
   apply Ae
   ·exact Ah
   apply Ae
   ·apply Cj
    ·apply Ae
     ·apply Ax
      ·exact Ac rfl
      ·exact Ah
      ·exact Fx hh
     exact Au
    ·exact Nat.le_of_ble_eq_true rfl
   exact Ae Ah Au
  ·apply Acx
   ·exact hp
   ·exact htn
   ·exact hne
   ·exact ep
   ·exact et
   ·exact h1
   ·exact h2
   ·exact hG
   ·exact es
   ·exact hst
   ·exact ho
 exact Ar
theorem Xj {w:Ws} {v:AVal} {t:Nat} {tt:TS} {p:Nat} {tp:TS} (hp:p < w.n) (ep:w.T p=tp) (htn:t < w.n) (hne:t≠p) (et:w.T t=tt) (hx:w.snext=.id (.task t)) (hh:w.shand=v) (hG:w.G w.gn=none) (h1:tt.st ≠ "completed") (h2:tt.st ≠ "done") (hq:w.q t=none) (hst:tt.st ≠ "accepting") (hG1:w.G (w.gn + 1)=none):Bp [.id .mill,.id (.task p),.id .source] (toA w)=some (.none,toA ((w.s_sdoes "send").callB p t tp (.flist [v]))):=by
 apply Ch rfl
 unfold Ci
 apply Ak
 ·apply Br
  ·apply B2
   ·apply A4
    ·apply Ax
     ·exact Ac rfl
     ·exact Ah
     ·exact Em hx
    ·exact Ah
    ·exact Aff
   ·exact Dj rfl rfl
  exact Ar
 apply Ak
 ·apply Dt
  ·exact Ah
  ·exact Ac rfl
  ·exact Ah
  ·exact Tc
 apply Ak
 ·apply Bo
  apply Aw
  ·apply Ae
   ·exact Ax (Ac rfl) Ah rfl
   apply Ae
   ·exact Ac rfl
   apply Ae
   ·apply Ax
    ·exact Ac rfl
    ·exact Ah
    ·exact Em hx
   apply Ae
   ·exact Ah
   apply Ae
   ·apply Cj
    ·apply Ae
     ·apply Ax
      ·exact Ac rfl
      ·exact Ah
      ·exact Fx hh
     exact Au
    ·exact Nat.le_of_ble_eq_true rfl
   exact Ae Ah Au
  ·apply Kx
   ·exact hp
   ·exact htn
   ·exact hne
   ·exact ep
   ·exact et
   ·exact h1
   ·exact h2
   ·exact hG
   ·exact hq
   ·exact hst
   ·exact hG1
 exact Ar
theorem Vt {w:Ws} {v:AVal} {p s:Nat} {tp:TS} {ss:SS} (hn:w.tn=w.n) (hl:w.n < 50) (hs:w.sn=w.ns) (hl2:w.ns < 50) (hp:p < w.n) (ep:w.T p=tp) (hcl:w.crew.length < 1000000) (hnest:w.nested=false) (hpat:w.pat=false) (hd:w.lib.deps.length < 1000000) (hsp:s < w.ns) (eS:w.S s=ss) (hx:ss.next=.none) (hh:ss.hand=v) (hG:w.G w.gn=none) (hG1:w.G (w.gn + 1)=none):Bp [.id .mill,.id (.task p),.id (.stage s)] (toA w)=some (.none,toA (((w.growL false p tp (updN w.S s (ss.s_next (.id (.task w.n)))) w.snext).setS s ((ss.s_next (.id (.task w.n))).s_does "send")).callB p w.n tp (.flist [v]))):=by
 apply Ch rfl
 unfold Ci
 apply Ak
 ·apply Br
  ·apply B2
   ·apply A4
    ·apply Ax
     ·exact Ac rfl
     ·exact Ah
     ·exact (Lc hsp eS).trans (congrArg some hx)
    ·exact Ah
    ·exact M7
   ·apply Df rfl
    apply B2
    ·apply Bk
     apply Aw
     ·exact Ae (Ac rfl) (Ae (Ac rfl) (Ae (Ac rfl) Au))
     ·exact Xq hn hl hs hl2 hp ep hcl hnest hpat hd hsp eS
    ·exact Dj rfl rfl
  exact Ar
 apply Ak
 ·apply Dt
  ·exact Ah
  ·exact Ac rfl
  ·exact Ah
  ·apply Ll
   ·exact Nat.lt_succ_of_lt hsp
   ·exact ((Av _ _ (Nat.ne_of_lt hsp)).trans (Al _ _ _))
 apply Ak
 ·apply Bo
  apply Aw
  ·apply Ae
   ·exact Ax (Ac rfl) Ah rfl
   apply Ae
   ·exact Ac rfl
   apply Ae
   ·apply Ax
    ·exact Ac rfl
    ·exact Ah
    ·apply Ge
     ·exact Nat.lt_succ_of_lt hsp
     ·exact congrArg SS.next (Al _ _ _)
   apply Ae
   ·exact Ah
   apply Ae
   ·apply Cj
    ·apply Ae
     ·apply Ax
      ·exact Ac rfl
      ·exact Ah
      ·apply Np
       ·exact Nat.lt_succ_of_lt hsp
       ·exact (congrArg SS.hand (Al _ _ _)).trans hh
     exact Au
    ·exact Nat.le_of_ble_eq_true rfl
   exact Ae Ah Au
  ·apply Kx
   ·exact Nat.lt_succ_of_lt hp
   ·exact Nat.lt_succ_self _
   ·exact Nat.ne_of_gt hp
   ·exact (Av _ _ (Nat.ne_of_lt hp)).trans ep
   ·exact Al _ _ _
   ·exact (show ("ready" : String) ≠ "completed" by decide)
   ·exact (show ("ready" : String) ≠ "done" by decide)
   ·exact hG
   ·exact Al _ _ _
   ·exact (show ("ready" : String) ≠ "accepting" by decide)
   ·exact hG1
 exact Ar
theorem Vu {w:Ws} {p s:Nat} {tp:TS} {ss:SS} (hn:w.tn=w.n) (hl:w.n < 50) (hs:w.sn=w.ns) (hl2:w.ns < 50) (hp:p < w.n) (ep:w.T p=tp) (hcl:w.crew.length < 1000000) (hnest:w.nested=false) (hpat:w.pat=true) (hd:w.lib.deps.length < 1000000) (hsp:s < w.ns) (eS:w.S s=ss) (hx:ss.next=.none):Bp [.id .mill,.id (.task p),.id (.stage s)] (toA w)=some (.none,toA (w.growL true p tp (updN w.S s (ss.s_next (.id (.task w.n)))) w.snext)):=by
 apply Bv rfl
 unfold Ci
 apply A8
 apply Cw
 ·apply B2
  ·apply A4
   ·apply Ax
    ·exact Ac rfl
    ·exact Ah
    ·exact (Lc hsp eS).trans (congrArg some hx)
   ·exact Ah
   ·exact M7
  ·apply Df rfl
   apply B2
   ·apply Bk
    apply Aw
    ·exact Ae (Ac rfl) (Ae (Ac rfl) (Ae (Ac rfl) Au))
    ·exact Xr hn hl hs hl2 hp ep hcl hnest hpat hd hsp eS
   ·exact Df rfl Ib
 exact A8 (B7 Ah)
theorem Vv {w:Ws} {v:AVal} {p s:Nat} {tp:TS} {ss:SS} (hn:w.tn=w.n) (hl:w.n < 50) (hs:w.sn=w.ns) (hl2:w.ns < 50) (hp:p < w.n) (ep:w.T p=tp) (hcl:w.crew.length < 1000000) (hnest:w.nested=true) (hpat:w.pat=false) (hM:w.M p=none) (hms:w.ms p=[]) (hsp:s < w.ns) (eS:w.S s=ss) (hx:ss.next=.none) (hh:ss.hand=v) (hG:w.G w.gn=none) (hG1:w.G (w.gn + 1)=none):Bp [.id .mill,.id (.task p),.id (.stage s)] (toA w)=some (.none,toA (((w.growM false p tp (updN w.S s (ss.s_next (.id (.task w.n)))) w.snext).setS s ((ss.s_next (.id (.task w.n))).s_does "send")).callB p w.n tp (.flist [v]))):=by
 apply Ch rfl
 unfold Ci
 apply Ak
 ·apply Br
  ·apply B2
   ·apply A4
    ·apply Ax
     ·exact Ac rfl
     ·exact Ah
     ·exact (Lc hsp eS).trans (congrArg some hx)
    ·exact Ah
    ·exact M7
   ·apply Df rfl
    apply B2
    ·apply Bk
     apply Aw
     ·exact Ae (Ac rfl) (Ae (Ac rfl) (Ae (Ac rfl) Au))
     ·exact Xs hn hl hs hl2 hp ep hcl hnest hpat hM hms hsp eS
    ·exact Dj rfl rfl
  exact Ar
 apply Ak
 ·apply Dt
  ·exact Ah
  ·exact Ac rfl
  ·exact Ah
  ·apply Ll
   ·exact Nat.lt_succ_of_lt hsp
   ·exact ((Av _ _ (Nat.ne_of_lt hsp)).trans (Al _ _ _))
 apply Ak
 ·apply Bo
  apply Aw
  ·apply Ae
   ·exact Ax (Ac rfl) Ah rfl
   apply Ae
   ·exact Ac rfl
   apply Ae
   ·apply Ax
    ·exact Ac rfl
    ·exact Ah
    ·apply Ge
     ·exact Nat.lt_succ_of_lt hsp
     ·exact congrArg SS.next (Al _ _ _)
   apply Ae
   ·exact Ah
   apply Ae
   ·apply Cj
    ·apply Ae
     ·apply Ax
      ·exact Ac rfl
      ·exact Ah
      ·apply Np
       ·exact Nat.lt_succ_of_lt hsp
       ·exact (congrArg SS.hand (Al _ _ _)).trans hh
     exact Au
    ·exact Nat.le_of_ble_eq_true rfl
   exact Ae Ah Au
  ·apply Kx
   ·exact Nat.lt_succ_of_lt hp
   ·exact Nat.lt_succ_self _
   ·exact Nat.ne_of_gt hp
   ·exact (Av _ _ (Nat.ne_of_lt hp)).trans ep
   ·exact Al _ _ _
   ·exact (show ("ready" : String) ≠ "completed" by decide)
   ·exact (show ("ready" : String) ≠ "done" by decide)
   ·exact hG
   ·exact Al _ _ _
   ·exact (show ("ready" : String) ≠ "accepting" by decide)
   ·exact hG1
 exact Ar
theorem Vw {w:Ws} {p s:Nat} {tp:TS} {ss:SS} (hn:w.tn=w.n) (hl:w.n < 50) (hs:w.sn=w.ns) (hl2:w.ns < 50) (hp:p < w.n) (ep:w.T p=tp) (hcl:w.crew.length < 1000000) (hnest:w.nested=true) (hpat:w.pat=true) (hM:w.M p=none) (hms:w.ms p=[]) (hsp:s < w.ns) (eS:w.S s=ss) (hx:ss.next=.none):Bp [.id .mill,.id (.task p),.id (.stage s)] (toA w)=some (.none,toA (w.growM true p tp (updN w.S s (ss.s_next (.id (.task w.n)))) w.snext)):=by
 apply Bv rfl
 unfold Ci
 apply A8
 apply Cw
 ·apply B2
  ·apply A4
   ·apply Ax
    ·exact Ac rfl
    ·exact Ah
    ·exact (Lc hsp eS).trans (congrArg some hx)
   ·exact Ah
   ·exact M7
  ·apply Df rfl
   apply B2
   ·apply Bk
    apply Aw
    ·exact Ae (Ac rfl) (Ae (Ac rfl) (Ae (Ac rfl) Au))
    ·exact Xu hn hl hs hl2 hp ep hcl hnest hpat hM hms hsp eS
   ·exact Df rfl Ib
 exact A8 (B7 Ah)
theorem Xk {w:Ws} {v:AVal} {t:Nat} {tt:TS} {p s:Nat} {tp:TS} {ss:SS} (hp:p < w.n) (ep:w.T p=tp) (htn:t < w.n) (hne:t≠p) (et:w.T t=tt) (hsp:s < w.ns) (eS:w.S s=ss) (hx:ss.next=.id (.task t)) (hh:ss.hand=v) (hG:w.G w.gn=none) (h1:tt.st ≠ "completed") (h2:tt.st ≠ "done") (es:w.sv t=[]) (hst:tt.st = "accepting") (ho:tt.op=Me):Bp [.id .mill,.id (.task p),.id (.stage s)] (toA w)=some (.none,toA ((w.setS s (ss.s_does "send")).callA p t tp tt (.flist [v]))):=by
 apply Ch rfl
 unfold Ci
 apply Ak
 ·apply Br
  ·apply B2
   ·apply A4
    ·apply Ax
     ·exact Ac rfl
     ·exact Ah
     ·exact (Lc hsp eS).trans (congrArg some hx)
    ·exact Ah
    ·exact Aff
   ·exact Dj rfl rfl
  exact Ar
 apply Ak
 ·apply Dt
  ·exact Ah
  ·exact Ac rfl
  ·exact Ah
  ·exact Ll hsp eS
 apply Ak
 ·apply Bo
  apply Aw
  ·apply Ae
   ·exact Ax (Ac rfl) Ah rfl
   apply Ae
   ·exact Ac rfl
   apply Ae
   ·apply Ax
    ·exact Ac rfl
    ·exact Ah
    ·apply Ge
     ·exact hsp
     ·exact (congrArg SS.next (Al _ _ _)).trans hx
   apply Ae
   ·exact Ah
   apply Ae
   ·apply Cj
    ·apply Ae
     ·apply Ax
      ·exact Ac rfl
      ·exact Ah
      ·apply Np
       ·exact hsp
       ·exact (congrArg SS.hand (Al _ _ _)).trans hh
     exact Au
    ·exact Nat.le_of_ble_eq_true rfl
   exact Ae Ah Au
  ·apply Acx
   ·exact hp
   ·exact htn
   ·exact hne
   ·exact ep
   ·exact et
   ·exact h1
   ·exact h2
   ·exact hG
   ·exact es
   ·exact hst
   ·exact ho
 exact Ar
theorem Xl {w:Ws} {v:AVal} {t:Nat} {tt:TS} {p s:Nat} {tp:TS} {ss:SS} (hp:p < w.n) (ep:w.T p=tp) (htn:t < w.n) (hne:t≠p) (et:w.T t=tt) (hsp:s < w.ns) (eS:w.S s=ss) (hx:ss.next=.id (.task t)) (hh:ss.hand=v) (hG:w.G w.gn=none) (h1:tt.st ≠ "completed") (h2:tt.st ≠ "done") (hq:w.q t=none) (hst:tt.st ≠ "accepting") (hG1:w.G (w.gn + 1)=none):Bp [.id .mill,.id (.task p),.id (.stage s)] (toA w)=some (.none,toA ((w.setS s (ss.s_does "send")).callB p t tp (.flist [v]))):=by
 apply Ch rfl
 unfold Ci
 apply Ak
 ·apply Br
  ·apply B2
   ·apply A4
    ·apply Ax
     ·exact Ac rfl
     ·exact Ah
     ·exact (Lc hsp eS).trans (congrArg some hx)
    ·exact Ah
    ·exact Aff
   ·exact Dj rfl rfl
  exact Ar
 apply Ak
 ·apply Dt
  ·exact Ah
  ·exact Ac rfl
  ·exact Ah
  ·exact Ll hsp eS
 apply Ak
 ·apply Bo
  apply Aw
  ·apply Ae
   ·exact Ax (Ac rfl) Ah rfl
   apply Ae
   ·exact Ac rfl
   apply Ae
   ·apply Ax
    ·exact Ac rfl
    ·exact Ah
    ·apply Ge
     ·exact hsp
     ·exact (congrArg SS.next (Al _ _ _)).trans hx
   apply Ae
   ·exact Ah
   apply Ae
   ·apply Cj
    ·apply Ae
     ·apply Ax
      ·exact Ac rfl
      ·exact Ah
      ·apply Np
       ·exact hsp
       ·exact (congrArg SS.hand (Al _ _ _)).trans hh
     exact Au
    ·exact Nat.le_of_ble_eq_true rfl
   exact Ae Ah Au
  ·apply Kx
   ·exact hp
   ·exact htn
   ·exact hne
   ·exact ep
   ·exact et
   ·exact h1
   ·exact h2
   ·exact hG
   ·exact hq
   ·exact hst
   ·exact hG1
 exact Ar
section
theorem Ri {w:Ws} {i:Nat} {a b:SS}:(w.setS i a).setS i b=w.setS i b:=by
 show ({ w with S:=updN (updN w.S i a) i b }:Ws)={ w with S:=updN w.S i b }
 rw [Cb]
theorem Afr {w:Ws} {i:Nat} (hi:i < w.n) (hq:w.q i=none) (hG:w.G w.gn=none):Go [.id (.queues i)] (toA w)=some (.flist [],toA (w.newG (.qdict none))):=by
 have g:(w.newG (.qdict none)).G w.gn=some (.qdict none):=Al _ _ _
 apply Bv rfl
 unfold I4
 apply Ak
 ·exact A7 (Afi rfl (O4 hG))
 apply Ak
 ·exact An8 (Ac rfl) (R_q (w:=w.newG (.qdict none)) hi hq)
 apply Ak
 ·exact Bo (Dv (Ac rfl) (Pt (R_q (w:=w.newG (.qdict none)) hi hq)) Au (Ak1 (w:=w.newG (.qdict none)) hi hq))
 apply A8
 apply B7
 apply D8
 ·apply Aw
  ·exact Ae (Ac rfl) Au
  ·show (match (w.newG (.qdict none)).G w.gn with | some (.qdict none)=>some (AVal.flist [],toA (w.newG (.qdict none))) | _=>none)=_
   rw [g]
 ·exact Acp rfl
noncomputable def TS.over (t:TS):TS:={ t with op:=.flist [],wake:=.none,st := "completed",act:=.none }
section
variable {w:Ws} {i:Nat} {t:TS} (hi:i < w.n) (ei:w.T i=t) (hq:w.q i=none) (hG:w.G w.gn=none) (hsv:w.sv i=[]) (ha:t.act=.none)
include hi ei hq hG hsv ha
theorem Sd (hms:w.ms i=[]):C7 [.id (.task i)] (toA w)=some (.none,toA ((w.newG (.qdict none)).setT i t.over)):=by
 apply Eq.trans
 ·apply Ch rfl
  unfold F5
  apply Ak
  ·apply D4
   ·exact Aw (Ae (Ay (Ac rfl) (Kj hi ei)) Au) (Afr hi hq hG)
   ·exact Eh rfl
  apply Ak
  ·apply Mb
   apply G3
   ·exact Ay (Ac rfl) (Nl (w:=w.newG (.qdict none)) hi ei)
   ·exact Vk (Afu (w:=w.newG (.qdict none)) hi hsv)
  apply Ak
  ·exact Ca (Cj Au (Nat.zero_le _)) (Ac rfl) (Adz (w:=w.newG (.qdict none)) hi ei)
  apply Ak
  ·exact Ca Ah (Ac rfl) (Nv (w:=w.newG (.qdict none)) hi)
  apply Ak
  ·exact Ca Ah (Ac rfl) (P8 (w:=w.newG (.qdict none)) hi)
  apply Ak
  ·apply D4
   ·exact Ay (Ac rfl) (D6 (w:=(w.newG (.qdict none)).setT i (((t.s_op (.flist [])).s_wake .none).s_st "completed")) hi rfl)
   ·apply Eh
    exact B5 (Md (w:=(w.newG (.qdict none)).setT i (((t.s_op (.flist [])).s_wake .none).s_st "completed")) hi hms)
  apply Ak
  ·apply Bo
   apply Aw
   ·exact Ae (Ac rfl) (Ae (Ad3 (Ay (Ac rfl) (E9 (w:=(w.newG (.qdict none)).setT i (((t.s_op (.flist [])).s_wake .none).s_st "completed")) hi rfl)) rfl) Au)
   ·exact Ro (w:=(w.newG (.qdict none)).setT i (((t.s_op (.flist [])).s_wake .none).s_st "completed")) hi (Al _ _ _) ha
  exact Ar
 ·rw [E0]; rfl
noncomputable def Ws.done1 (w:Ws) (i:Nat) (t:TS) (m:MS):Ws:={ w with
 T:=updN w.T i t.over
 M:=updN w.M i (some (m.s_ended true))
 G:=updN w.G w.gn (some (.qdict none))
 gn:=w.gn + 1 }
theorem Se {j:Nat} {tj:TS} {m:MS} (hms:w.ms i=[.id (.master i)]) (hM:w.M i=some m) (hdp:m.deps=[.id (.task j)]) (hj:j < w.n) (ej:w.T j=tj) (hne:j≠i) (hjs:tj.st ≠ "fresh"):C7 [.id (.task i)] (toA w)=some (.none,toA (w.done1 i t m)):=by
 have hj':((w.newG (.qdict none)).setT i (((t.s_op (.flist [])).s_wake .none).s_st "completed")).T j=tj:=(Av _ _ hne).trans ej
 have hdr:Gp [.id (.master i)] (toA ((w.newG (.qdict none)).setT i (((t.s_op (.flist [])).s_wake .none).s_st "completed")))=some (.none,toA ((w.newG (.qdict none)).setT i (((t.s_op (.flist [])).s_wake .none).s_st "completed"))):=by
  apply Ch rfl
  unfold Ie
  have hd:toR ((w.newG (.qdict none)).setT i (((t.s_op (.flist [])).s_wake .none).s_st "completed")) (.deps i)=some (.list [.id (.task j)]):=by rw [← hdp]; exact Jr hM
  apply Ak
  ·apply D4
   ·apply Ay (Ac rfl)
    apply Je
    exact hM
   apply Fj
   ·exact B5 hd
   ·exact rfl
   ·apply Ak
    ·apply Br
     ·exact A4 (Ay (Ac rfl) (Dw (w:=(w.newG (.qdict none)).setT i (((t.s_op (.flist [])).s_wake .none).s_st "completed")) hj hj')) Ah (Gu hjs)
     exact Ar
    exact Ar
   apply Eh
   exact B5 hd
  exact Ar
 apply Eq.trans
 ·apply Ch rfl
  unfold F5
  apply Ak
  ·apply D4
   ·exact Aw (Ae (Ay (Ac rfl) (Kj hi ei)) Au) (Afr hi hq hG)
   ·exact Eh rfl
  apply Ak
  ·apply Mb
   apply G3
   ·exact Ay (Ac rfl) (Nl (w:=w.newG (.qdict none)) hi ei)
   ·exact Vk (Afu (w:=w.newG (.qdict none)) hi hsv)
  apply Ak
  ·exact Ca (Cj Au (Nat.zero_le _)) (Ac rfl) (Adz (w:=w.newG (.qdict none)) hi ei)
  apply Ak
  ·exact Ca Ah (Ac rfl) (Nv (w:=w.newG (.qdict none)) hi)
  apply Ak
  ·exact Ca Ah (Ac rfl) (P8 (w:=w.newG (.qdict none)) hi)
  apply Ak
  ·apply D4
   ·exact Ay (Ac rfl) (D6 (w:=(w.newG (.qdict none)).setT i (((t.s_op (.flist [])).s_wake .none).s_st "completed")) hi rfl)
   apply Fj
   ·exact B5 (Md (w:=(w.newG (.qdict none)).setT i (((t.s_op (.flist [])).s_wake .none).s_st "completed")) hi hms)
   ·exact rfl
   ·apply Ak
    ·apply Bo
     apply Aw
     ·exact Ae (Ac rfl) Au
     ·exact hdr
    apply Ak
    ·apply Ca Ah (Ac rfl)
     apply Ajn
     exact hM
    exact Ar
   apply Eh
   exact B5 (Md (w:=((w.newG (.qdict none)).setT i (((t.s_op (.flist [])).s_wake .none).s_st "completed")).setM i (m.s_ended true)) hi hms)
  apply Ak
  ·apply Bo
   apply Aw
   ·apply Ae
    ·exact Ac rfl
    apply Ae
    ·apply Ad3
     ·apply Ay (Ac rfl)
      apply E9
      ·exact hi
      ·exact rfl
     ·exact rfl
    ·exact Au
   ·apply Ro
    ·exact hi
    ·exact Al _ _ _
    ·exact ha
  exact Ar
 ·refine L3 (L0 ?_ (by kernel_rfl) (by kernel_rfl) (by kernel_rfl))
  show updN (updN w.T i _) i _=updN w.T i _
  rw [Cb]; rfl
end
theorem Zw {w:Ws}:(toA w).item (.id .source) (.str "left")=some (.id .left):=rfl
theorem Aid {w:Ws} (h:w.left=[]):cEq (toA w) (.id .left) (.flist [])=some true:=by
 show ((some w.left).bind fun xs=>(toA w).seqEq xs [])=_
 rw [h]; rfl
theorem Aic {w:Ws} {x:AVal} {xs:List AVal} (h:w.left=x :: xs):cEq (toA w) (.id .left) (.flist [])=some false:=by
 show ((some w.left).bind fun xs=>(toA w).seqEq xs [])=_
 rw [h]; rfl
theorem Ahc {w:Ws} {r:AVal×AS} (hd:w.sdoes = "send") (hl:w.left=[]) (H:C7 [.id (.task 0)] (toA (w.s_shand .none))=some r):Dd [.id .mill,.id (.task 0),.id .source] (toA w)=some (.none,r.2):=by
 apply Bv rfl
 unfold D7
 apply Ak
 ·apply Cw
  ·exact A4 (Ax (Ac rfl) Ah (Pq hd)) Ah (Jo rfl)
  apply Ak
  ·exact Dt Ah (Ac rfl) Ah Aao
  exact Ar
 apply A8
 apply Cw
 ·apply B2
  ·exact A4 (Ax (Ac rfl) Ah (Fx (w:=w.s_shand .none) rfl)) Ah M7
  ·apply Df rfl
   apply B2
   ·exact A4 (Ax (Ac rfl) Ah Zw) (Cj Au (Nat.zero_le _)) (Aid (w:=w.s_shand .none) hl)
   ·exact Df rfl Ib
 apply Ak
 ·apply Bo
  apply Aw
  ·exact Ae (Ac rfl) Au
  ·exact H
 exact A8 (B7 Ah)
noncomputable def Ws.tell (w:Ws) (x:AVal) (xs:List AVal):Ws:={ w with left:=xs,shand:=x,told:=w.told++[x] }
theorem Yu {w:Ws} {x:AVal} {xs:List AVal} {m:B1} (m1:m.lookup "mill" = some (.id .mill)) (m2:m.lookup "source" = some (.id .source)) (hs:w.shand=.none) (hl:w.left=x :: xs) (ht:w.told.length < 1000000) :
  sIf (Dg (Bs cIs (Bg (Ad "source") (An (.str "hand"))) (An .none)) (Dg (Bs cEq (Bg (Ad "source") (An (.str "left"))) (Db Ap)) (Cp true))) (Am (Bw (Az C7 (Af (Ad "task") Ap))) (Am (C4 (An .none)) Aq)) Aq m (toA w)=some (.next,m,toA w) ∧
  sIf (Bs cIs (Bg (Ad "source") (An (.str "hand"))) (An .none)) (Am (Fy (Ed "list" Adt (Bg (Ad "source") (An (.str "left"))) (Af (An (.int 0)) Ap)) (Ad "source") (An (.str "hand"))) (Am (Bw (Ed "list" Ck (Bg (Ad "mill") (An (.str "told"))) (Af (Bg (Ad "source") (An (.str "hand"))) Ap))) Aq)) Aq m (toA w)=some (.next,m,toA (((w.s_left xs).s_shand x).s_told (w.told++[x]))):=by
 refine ⟨?_,?_⟩
 ·apply Br
  ·apply B2
   ·exact A4 (Ax (Ac m2) Ah (Fx hs)) Ah M7
   ·apply Df rfl
    apply B2
    ·exact A4 (Ax (Ac m2) Ah Zw) (Cj Au (Nat.zero_le _)) (Aic hl)
    ·exact Dj rfl rfl
  exact Ar
 ·apply Cw
  ·exact A4 (Ax (Ac m2) Ah (Fx hs)) Ah M7
  apply Ak
  ·apply Dt
   ·apply Dv
    ·exact Ax (Ac m2) Ah Zw
    ·exact Cv rfl
    ·exact Ae Ah Au
    ·exact Ajo hl
   ·exact Ac m2
   ·exact Ah
   ·exact Aao
  apply Ak
  ·apply Bo
   apply Dv
   ·exact Ax (Ac m1) Ah rfl
   ·exact Cv rfl
   ·exact Ae (Ax (Ac m2) Ah (Fx (w:=(w.s_left xs).s_shand x) rfl)) Au
   ·exact Ahm (w:=(w.s_left xs).s_shand x) (xs:=w.told) rfl ht
  exact Ar
theorem Aeo {w:Ws} {x:AVal} {xs:List AVal} {r:AVal×AS} (hd:w.sdoes = "send") (hl:w.left=x :: xs) (ht:w.told.length < 1000000) (H:Bp [.id .mill,.id (.task 0),.id .source] (toA (w.tell x xs))=some r) :
  Dd [.id .mill,.id (.task 0),.id .source] (toA w)=some (.none,r.2):=by
 obtain ⟨t1,t2⟩:=Yu (w:=w.s_shand .none) (x:=x) (xs:=xs) (m:=Dc ["mill", "task", "source"] [.id .mill,.id (.task 0),.id .source]) rfl rfl rfl hl ht
 apply Ch rfl
 unfold D7
 apply Ak
 ·apply Cw
  ·exact A4 (Ax (Ac rfl) Ah (Pq hd)) Ah (Jo rfl)
  apply Ak
  ·exact Dt Ah (Ac rfl) Ah Aao
  exact Ar
 apply Ak
 ·exact t1
 apply Ak
 ·exact t2
 apply Ak
 ·apply Bo
  apply Aw
  ·exact Ae (Ac rfl) (Ae (Ac rfl) (Ae (Ac rfl) Au))
  ·exact H
 exact Ar
theorem Ac0 {w:Ws} {x:AVal} {xs:List AVal} {r:AVal×AS} (hd:w.sdoes = "make") (hh:w.shand=.none) (hl:w.left=x :: xs) (ht:w.told.length < 1000000) (H:Bp [.id .mill,.id (.task 0),.id .source] (toA (w.tell x xs))=some r) :
  Dd [.id .mill,.id (.task 0),.id .source] (toA w)=some (.none,r.2):=by
 obtain ⟨t1,t2⟩:=Yu (w:=w) (x:=x) (xs:=xs) (m:=Dc ["mill", "task", "source"] [.id .mill,.id (.task 0),.id .source]) rfl rfl hh hl ht
 apply Ch rfl
 unfold D7
 apply Ak
 ·apply Br
  ·exact A4 (Ax (Ac rfl) Ah (Pq hd)) Ah (Gu (by decide))
  exact Ar
 apply Ak
 ·exact t1
 apply Ak
 ·exact t2
 apply Ak
 ·apply Bo
  apply Aw
  ·exact Ae (Ac rfl) (Ae (Ac rfl) (Ae (Ac rfl) Au))
  ·exact H
 exact Ar
theorem Amz {σ:AS} {k:Int}:cIs σ (.int k) .none=some false:=rfl
theorem Aen {w:Ws} {k:Int} {r:AVal×AS} (hd:w.sdoes = "make") (hh:w.shand=.int k) (H:Bp [.id .mill,.id (.task 0),.id .source] (toA w)=some r) :
  Dd [.id .mill,.id (.task 0),.id .source] (toA w)=some (.none,r.2):=by
 apply Ch rfl
 unfold D7
 apply Ak
 ·apply Br
  ·exact A4 (Ax (Ac rfl) Ah (Pq hd)) Ah (Gu (by decide))
  exact Ar
 apply Ak
 ·apply Br
  ·apply B2
   ·exact A4 (Ax (Ac rfl) Ah (Fx hh)) Ah Amz
   ·exact Dj rfl rfl
  exact Ar
 apply Ak
 ·apply Br
  ·exact A4 (Ax (Ac rfl) Ah (Fx hh)) Ah Amz
  exact Ar
 apply Ak
 ·apply Bo
  apply Aw
  ·exact Ae (Ac rfl) (Ae (Ac rfl) (Ae (Ac rfl) Au))
  ·exact H
 exact Ar
noncomputable def Am7:SD:=(Am (Fy (An (.str "wait")) (Ad "stage") (An (.str "does"))) (Am (Fy (An .none) (Ad "stage") (An (.str "hand"))) (Am (Bw (Az Dk (Af (Bg (Ad "mill") (An (.str "tasking"))) (Af (Ad "task") (Af (Db (Af (Mg (Af (An (.int 0)) (Af (An (.str "accept")) (Af (An (.base 542)) Ap)))) (Af (Mg (Af (An (.int 1)) (Af (An (.str "terminate")) (Af (An .none) Ap)))) Ap))) (Af (An (.bool false)) Ap)))))) Aq)))
theorem G1 {w:Ws} {s:Nat} (h:s < w.sn) (hl:w.sn < 1000):(toA w).item (.id .stages) (.int s)=some (.id (.stage s)):=by
 have e:Hh (sl w.sn) (s:Int)=some (.id (.stage s)):=by
  unfold Hh
  rw [if_pos (Int.natCast_nonneg s),if_pos (by lia),Int.toNat_natCast,Aoc h]
 show ((toA w).lst (.id .stages)).bind (fun xs=>Hh xs (s:Int))=_
 exact (congrArg (fun z=>Option.bind z fun xs=>Hh xs (s:Int)) (Lg (w:=w) (i:=.stages) (xs:=sl w.sn) rfl)).trans ((Option.bind_some _ _).trans e)
section
variable {w:Ws} {m:B1} {p s:Nat} {ss:SS} {r:AVal×AS}
theorem Rg (m1:m.lookup "mill" = some (.id .mill)) (m2:m.lookup "stage" = some (.id (.stage s))) (m3:m.lookup "task" = some (.id (.task p))) (hsp:s < w.ns) (eS:w.S s=ss)
  (H:Dk [.id .tasking,.id (.task p),Me,.bool false] (toA (w.setS s ((ss.s_does "wait").s_hand .none)))=some r):Am7 m (toA w)=some (.next,m,r.2):=by
 unfold Am7
 apply Ak
 ·exact Dt Ah (Ac m2) Ah (Ll hsp eS)
 apply Ak
 ·apply Dt Ah (Ac m2) Ah
  rw [Aaq (w:=w.setS s (ss.s_does "wait")) hsp (Al _ _ _),Ri]
 apply Ak
 ·apply Bo
  apply Aw
  ·exact Ae (Ax (Ac m1) Ah rfl) (Ae (Ac m3) (Ae (Cj (Ae (Afk (Ae Ah (Ae Ah (Ae Ah Au))) (by decide)) (Ae (Afk (Ae Ah (Ae Ah (Ae Ah Au))) (by decide)) Au)) (by decide)) (Ae Ah Au)))
  ·exact H
 exact Ar
variable (hsn:s < w.sn) (hsl:w.sn < 1000) (hsp:s < w.ns) (eS:w.S s=ss)
include hsn hsl hsp eS
theorem Sf {w₁:Ws} (hd:ss.does = "begin") (H1:Ea [.id (.task p),.bool false] (toA w)=some (.none,toA w₁)) (hsp1:s < w₁.ns) (eS1:w₁.S s=ss)
  (H:Dk [.id .tasking,.id (.task p),Me,.bool false] (toA (w₁.setS s ((ss.s_does "wait").s_hand .none)))=some r):C1 [.id .mill,.id (.task p),.int s] (toA w)=some (.none,r.2):=by
 apply Ch rfl
 unfold Dh
 apply Ak
 ·exact A7 (Ax (Ax (Ac rfl) Ah rfl) (Ac rfl) (G1 hsn hsl))
 apply Ak
 ·apply Cw
  ·exact A4 (Ax (Ac rfl) Ah ((No hsp eS).trans (congrArg (fun z=>some (AVal.str z)) hd))) Ah (Jo rfl)
  apply Ak
  ·apply Bo
   apply Aw
   ·exact Ae (Ac rfl) (Ae Ah Au)
   ·exact H1
  exact Ar
 exact Rg rfl rfl rfl hsp1 eS1 H
theorem Aeq (hd:ss.does = "send")
  (H:Dk [.id .tasking,.id (.task p),Me,.bool false] (toA (w.setS s ((ss.s_does "wait").s_hand .none)))=some r):C1 [.id .mill,.id (.task p),.int s] (toA w)=some (.none,r.2):=by
 apply Ch rfl
 unfold Dh
 apply Ak
 ·exact A7 (Ax (Ax (Ac rfl) Ah rfl) (Ac rfl) (G1 hsn hsl))
 have hdo:(toA w).item (.id (.stage s)) (.str "does")=some (.str "send"):=(No hsp eS).trans (congrArg (fun z=>some (AVal.str z)) hd)
 apply Ak
 ·apply Br
  ·exact A4 (Ax (Ac rfl) Ah hdo) Ah (Gu (by decide))
  apply Ak
  ·apply Br
   ·exact A4 (Ax (Ac rfl) Ah hdo) Ah (Gu (by decide))
   apply Ak
   ·apply Br
    ·exact A4 (Ax (Ac rfl) Ah hdo) Ah (Gu (by decide))
    exact Ar
   exact Ar
  exact Ar
 exact Rg rfl rfl rfl hsp eS H
theorem Aep (hd:ss.does = "make") (H:Bp [.id .mill,.id (.task p),.id (.stage s)] (toA w)=some r):C1 [.id .mill,.id (.task p),.int s] (toA w)=some (.none,r.2):=by
 apply Bv rfl
 unfold Dh
 apply Ak
 ·exact A7 (Ax (Ax (Ac rfl) Ah rfl) (Ac rfl) (G1 hsn hsl))
 have hdo:(toA w).item (.id (.stage s)) (.str "does")=some (.str "make"):=(No hsp eS).trans (congrArg (fun z=>some (AVal.str z)) hd)
 apply A8
 apply Br
 ·exact A4 (Ax (Ac rfl) Ah hdo) Ah (Gu (by decide))
 apply A8
 apply Br
 ·exact A4 (Ax (Ac rfl) Ah hdo) Ah (Gu (by decide))
 apply A8
 apply Cw
 ·exact A4 (Ax (Ac rfl) Ah hdo) Ah (Jo rfl)
 apply Ak
 ·apply Bo
  apply Aw
  ·exact Ae (Ac rfl) (Ae (Ac rfl) (Ae (Ac rfl) Au))
  ·exact H
 exact A8 (B7 Ah)
end
end
section
noncomputable def Ws.met (w:Ws) (s p k:Nat) (co:CO) (tc:TS) (ss:SS):Ws:={ w with
 S:=updN w.S s ss
 sv:=updN w.sv p []
 G:=updN w.G k (some (D2 (U2 co)))
 T:=updN w.T co.c ((tc.s_call .none).woken (.tup [.str "called"]) .none) }
theorem Alc {w:Ws} {s:Nat} {ss:SS} {v:AVal} (h:s < w.ns) (e:w.S s=ss) (hv:ss.got[0]?=some v):(toA w).item (.id (.got s)) (.int 0)=some v :=
 (congrArg (fun z=>Option.bind z fun xs=>Hh xs 0) (Lg (Xy h e))).trans ((Option.bind_some _ _).trans hv)
section
variable {w:Ws} {p s k:Nat} {ss:SS} {co:CO} {tp tc:TS} {x g:Int} {x0:AVal}
 (hsn:s < w.sn) (hsl:w.sn < 1000) (hsp:s < w.ns) (eS:w.S s=ss) (hd:ss.does = "wait") (hp:p < w.n) (ep:w.T p=tp) (ha:tp.ans=.tup [.str "accept",x0,.id (.tmp k)]) (hk:w.G k=some (D2 co)) (hv:co.vals=.flist [.int x])
 (esv:w.sv p=[.id (.tmp k)]) (hc:co.c < w.n) (ec:w.T co.c=tc) (hgl:ss.got.length < 1000000) (hg:(ss.got++[.int x])[0]?=some (.int g)) (hg0:g≠0)
include hsn hsl hsp eS hd hp ep ha hk hv esv hc ec hgl hg hg0
theorem Ow {m:B1} (m1:m.lookup "mill" = some (.id .mill)) (m2:m.lookup "stage" = some (.id (.stage s))) (m3:m.lookup "task" = some (.id (.task p))) (hm:(Bd m "number" (.int x)).lookup "stage" = some (.id (.stage s))) (hm':(Bd m "number" (.int x)).lookup "task" = some (.id (.task p))) (hm'':(Bd m "number" (.int x)).lookup "number" = some (.int x)) :
  Bb "number" (Bg (A1 (Bg (A1 (Ad "task") "answer") (An (.int 2))) "values") (An (.int 0))) m (toA w)=some (.next,Bd m "number" (.int x),toA w) ∧
  Bw (Ed "list" Ck (Bg (Ad "stage") (An (.str "got"))) (Af (Ad "number") Ap)) (Bd m "number" (.int x)) (toA w)=some (.next,Bd m "number" (.int x),toA (w.setS s (ss.s_got (ss.got++[.int x])))) ∧
  Bw (Az G7 (Af (Ad "task") (Af (An .none) Ap))) (Bd m "number" (.int x)) (toA (w.setS s (ss.s_got (ss.got++[.int x]))))=some (.next,Bd m "number" (.int x),toA (w.met s p k co tc (ss.s_got (ss.got++[.int x])))) ∧
  Bs cNe (Fv K5 (Ad "number") (Bg (Bg (Ad "stage") (An (.str "got"))) (An (.int 0)))) (An (.int 0)) (Bd m "number" (.int x)) (toA (w.met s p k co tc (ss.s_got (ss.got++[.int x]))))=some (!decide (x.fmod g=0),toA (w.met s p k co tc (ss.s_got (ss.got++[.int x])))):=by
 refine ⟨?_,?_,?_,?_⟩
 ·apply A7
  apply Ax
  ·apply Ay
   ·apply Ax
    ·exact Ay (Ac m3) ((Ahz hp ep).trans (congrArg some ha))
    ·exact Ah
    ·exact rfl
   ·exact (Agh hk).trans (congrArg some hv)
  ·exact Ah
  ·exact rfl
 ·apply Bo
  apply Dv
  ·exact Ax (Ac hm) Ah (T5 hsp eS)
  ·exact Cv (Xy hsp eS)
  ·exact Ae (Ac hm'') Au
  ·exact Akt hsp eS hgl
 ·apply Eq.trans
  ·apply Bo
   apply Aw
   ·exact Ae (Ac hm') (Ae Ah Au)
   ·apply Xg
    ·exact hp
    ·exact esv
    ·exact hk
    ·exact hc
    ·exact ec
  ·kernel_rfl
 ·apply A4
  ·apply H0
   ·exact Ac hm''
   ·apply Ax
    ·apply Ax
     ·exact Ac hm
     ·exact Ah
     ·apply T5
      ·exact hsp
      ·exact Al _ _ _
    ·exact Ah
    ·apply Alc
     ·exact hsp
     ·exact Al _ _ _
     ·exact hg
   ·exact if_neg hg0
  ·exact Ah
  ·exact Ajq
variable {r:AVal×AS}
theorem Ahd (hx:x.fmod g=0) (H:Dk [.id .tasking,.id (.task p),Me,.bool false] (toA ((w.met s p k co tc (ss.s_got (ss.got++[.int x]))).setS s (((ss.s_got (ss.got++[.int x])).s_does "wait").s_hand .none)))=some r) :
  C1 [.id .mill,.id (.task p),.int s] (toA w)=some (.none,r.2):=by
 have hdo:(toA w).item (.id (.stage s)) (.str "does")=some (.str "wait"):=(No hsp eS).trans (congrArg (fun z=>some (AVal.str z)) hd)
 obtain ⟨f1,f2,f3,f4⟩:=Ow hsn hsl hsp eS hd hp ep ha hk hv esv hc ec hgl hg hg0 (m:=Bd (Dc ["mill", "task", "spot"] [.id .mill,.id (.task p),.int s]) "stage" (.id (.stage s))) rfl rfl rfl rfl rfl rfl
 apply Ch rfl
 unfold Dh
 apply Ak
 ·exact A7 (Ax (Ax (Ac rfl) Ah rfl) (Ac rfl) (G1 hsn hsl))
 apply Ak
 ·apply Br
  ·exact A4 (Ax (Ac rfl) Ah hdo) Ah (Gu (by decide))
  apply Ak
  ·apply Cw
   ·exact A4 (Ax (Ac rfl) Ah hdo) Ah (Jo rfl)
   apply Ak
   ·exact f1
   apply Ak
   ·exact f2
   apply Ak
   ·exact f3
   apply Ak
   ·apply Ag6
    ·exact f4
    ·rw [decide_eq_true hx]
     exact Dj rfl Ar
   exact Ar
  exact Ar
 exact Rg rfl rfl rfl hsp (Al _ _ _) H
theorem Ako (hx:x.fmod g≠0) (hslow:w.slow≠(s:Int)) (H:Bp [.id .mill,.id (.task p),.id (.stage s)] (toA ((w.met s p k co tc (ss.s_got (ss.got++[.int x]))).setS s (((ss.s_got (ss.got++[.int x])).s_hand (.int x)).s_does "make")))=some r) :
  C1 [.id .mill,.id (.task p),.int s] (toA w)=some (.none,r.2):=by
 have hdo:(toA w).item (.id (.stage s)) (.str "does")=some (.str "wait"):=(No hsp eS).trans (congrArg (fun z=>some (AVal.str z)) hd)
 obtain ⟨f1,f2,f3,f4⟩:=Ow hsn hsl hsp eS hd hp ep ha hk hv esv hc ec hgl hg hg0 (m:=Bd (Dc ["mill", "task", "spot"] [.id .mill,.id (.task p),.int s]) "stage" (.id (.stage s))) rfl rfl rfl rfl rfl rfl
 apply Bv rfl
 unfold Dh
 apply Ak
 ·exact A7 (Ax (Ax (Ac rfl) Ah rfl) (Ac rfl) (G1 hsn hsl))
 apply A8
 apply Br
 ·exact A4 (Ax (Ac rfl) Ah hdo) Ah (Gu (by decide))
 apply A8
 apply Cw
 ·exact A4 (Ax (Ac rfl) Ah hdo) Ah (Jo rfl)
 apply Ak
 ·exact f1
 apply Ak
 ·exact f2
 apply Ak
 ·exact f3
 apply A8
 apply Ag6
 ·exact f4
 rw [decide_eq_false hx]
 apply Df rfl
 apply Ak
 ·apply Dt (Ac rfl) (Ac rfl) Ah
  apply Aaq
  ·exact hsp
  ·exact Al _ _ _
 apply Ak
 ·apply Dt Ah (Ac rfl) Ah
  rw [Ll (w:=(w.met s p k co tc (ss.s_got (ss.got++[AVal.int x]))).setS s ((ss.s_got (ss.got++[AVal.int x])).s_hand (.int x))) hsp (Al _ _ _),Ri]
 apply Ak
 ·apply Br
  ·apply A4
   ·exact Ax (Ac rfl) Ah rfl
   ·exact Ac rfl
   ·exact congrArg some (decide_eq_false hslow)
  apply Ak
  ·apply Bo
   apply Aw
   ·exact Ae (Ac rfl) (Ae (Ac rfl) (Ae (Ac rfl) Au))
   ·exact H
  exact Ar
 exact A8 (B7 Ah)
theorem Aer (hx:x.fmod g≠0) (hslow:w.slow=(s:Int)) (hpc:p≠co.c) :
  C1 [.id .mill,.id (.task p),.int s] (toA w)=some (.none,toA ((((w.met s p k co tc (ss.s_got (ss.got++[.int x]))).setS s (((ss.s_got (ss.got++[.int x])).s_hand (.int x)).s_does "make")).s_rests (w.rests + 1)).setT p (tp.rests (w.now + 1)))):=by
 have hdo:(toA w).item (.id (.stage s)) (.str "does")=some (.str "wait"):=(No hsp eS).trans (congrArg (fun z=>some (AVal.str z)) hd)
 obtain ⟨f1,f2,f3,f4⟩:=Ow hsn hsl hsp eS hd hp ep ha hk hv esv hc ec hgl hg hg0 (m:=Bd (Dc ["mill", "task", "spot"] [.id .mill,.id (.task p),.int s]) "stage" (.id (.stage s))) rfl rfl rfl rfl rfl rfl
 apply Bv rfl
 unfold Dh
 apply Ak
 ·exact A7 (Ax (Ax (Ac rfl) Ah rfl) (Ac rfl) (G1 hsn hsl))
 apply A8
 apply Br
 ·exact A4 (Ax (Ac rfl) Ah hdo) Ah (Gu (by decide))
 apply A8
 apply Cw
 ·exact A4 (Ax (Ac rfl) Ah hdo) Ah (Jo rfl)
 apply Ak
 ·exact f1
 apply Ak
 ·exact f2
 apply Ak
 ·exact f3
 apply A8
 apply Ag6
 ·exact f4
 rw [decide_eq_false hx]
 apply Df rfl
 apply Ak
 ·apply Dt (Ac rfl) (Ac rfl) Ah
  apply Aaq
  ·exact hsp
  ·exact Al _ _ _
 apply Ak
 ·apply Dt Ah (Ac rfl) Ah
  rw [Ll (w:=(w.met s p k co tc (ss.s_got (ss.got++[AVal.int x]))).setS s ((ss.s_got (ss.got++[AVal.int x])).s_hand (.int x))) hsp (Al _ _ _),Ri]
 apply Ak
 ·apply Cw
  ·apply A4
   ·exact Ax (Ac rfl) Ah rfl
   ·exact Ac rfl
   ·exact congrArg some (decide_eq_true hslow)
  apply Ak
  ·apply An6
   ·exact Ac rfl
   ·exact Ah
   ·exact rfl
   ·exact Ah
   ·exact rfl
   ·exact Alo
  apply Ak
  ·apply Bo
   apply Aw
   ·exact Ae (Ax (Ac rfl) Ah rfl) (Ae (Ac rfl) (Ae Ah Au))
   ·apply Amd
    ·exact hp
    ·exact (Av _ _ hpc).trans ep
  exact Ar
 exact A8 (B7 Ah)
end
end
section
section
variable {v:AVal} {xs:List AVal} {nm:String}
theorem Jd {body:SD} {I:Nat→B1→AS→Prop} (hv:∀ k m σ,I k m σ→σ.its v k=some xs[k]?)
  (hb:∀ k x,xs[k]?=some x→∀ m σ,I k m σ→∃ m' σ',body (Bd m nm x) σ=some (.next,m',σ')∧I (k + 1) m' σ') :
  ∀ n i m σ,xs.length < n + i→i≤xs.length→I i m σ→∃ m' σ',Vc v (B3 nm) body n i m σ=some (.next,m',σ')∧I xs.length m' σ':=by
 intro n
 induction n with
 | zero=>intro i m σ h1 h2; omega
 | succ n ih =>
  intro i m σ h1 h2 hI
  by_cases hi:i < xs.length
  ·obtain ⟨x,hx⟩:∃ x,xs[i]?=some x:=⟨xs[i],List.getElem?_eq_getElem hi⟩
   obtain ⟨m',σ',e1,e2⟩:=hb i x hx m σ hI
   obtain ⟨m'',σ'',e3,e4⟩:=ih (i + 1) m' σ' (by omega) hi e2
   exact ⟨m'',σ'',Fj (by rw [hv i m σ hI,hx]) rfl e1 e3,e4⟩
  ·obtain rfl:i=xs.length:=by omega
   exact ⟨m,σ,Eh (by rw [hv _ m σ hI,List.getElem?_eq_none (Nat.le_refl _)]),hI⟩
theorem Abt {body:SD} {σ:AS} {P:B1→Prop} (hv:∀ k,σ.its v k=some xs[k]?) (hb:∀ x∈xs,∀ m,P m→∃ m',body (Bd m nm x) σ=some (.next,m',σ)∧P m') {n:Nat} {m:B1} (hn:xs.length < n) (hm:P m) :
  ∃ m',Vc v (B3 nm) body n 0 m σ=some (.next,m',σ)∧P m':=by
 obtain ⟨m',σ',e1,e2,e3⟩:=Jd (v:=v) (xs:=xs) (nm:=nm) (body:=body) (I:=fun _ m σ'=>σ'=σ∧P m) (fun k m σ' h=>by rw [h.1]; exact hv k)
  (fun k x hx m σ' h=>by
   obtain ⟨rfl,h⟩:=h
   obtain ⟨m',e1,e2⟩:=hb x (List.mem_of_getElem? hx) m h
   exact ⟨m',σ',e1,rfl,e2⟩) n 0 m σ (by omega) (Nat.zero_le _) ⟨rfl,hm⟩
 subst e2
 exact ⟨m',e1,e3⟩
theorem Hi {σ:AS} {bt:B} {el:D} {P:B1→Prop} {b:AVal→Bool} {e:AVal→AVal} (hv:∀ k,σ.its v k=some xs[k]?) (hP:∀ m x,P m→P (Bd m nm x))
  (hb:∀ x∈xs,∀ m,P m→bt (Bd m nm x) σ=some (b x,σ)) (he:∀ x∈xs,∀ m,P m→b x=true→el (Bd m nm x) σ=some (e x,σ)) :
  ∀ n i acc m,xs.length < n + i→i≤xs.length→P m→Iq v (B3 nm) bt el n i acc m σ=some (.flist (acc++((xs.drop i).filter b).map e),σ):=by
 intro n
 induction n with
 | zero=>intro i acc m h1 h2; omega
 | succ n ih =>
  intro i acc m h1 h2 hm
  by_cases hi:i < xs.length
  ·have hx:xs[i]?=some xs[i]:=List.getElem?_eq_getElem hi
   have hmem:xs[i]∈xs:=List.getElem_mem hi
   have hd:xs.drop i=xs[i] :: xs.drop (i + 1):=List.drop_eq_getElem_cons hi
   cases hbx:b xs[i] with
   | true =>
    refine An7 (by rw [hv,hx]) rfl (by rw [← hbx]; exact hb _ hmem m hm) (he _ hmem m hm hbx) ?_
    rw [ih (i + 1) _ _ (by omega) hi (hP _ _ hm),hd,List.filter_cons_of_pos (by simp [hbx]),List.map_cons,List.append_assoc]
    rfl
   | false =>
    refine Als (by rw [hv,hx]) rfl (by rw [← hbx]; exact hb _ hmem m hm) ?_
    rw [ih (i + 1) _ _ (by omega) hi (hP _ _ hm),hd,List.filter_cons_of_neg (by simp [hbx])]
  ·obtain rfl:i=xs.length:=by omega
   rw [List.drop_length]
   exact (Acp (by rw [hv,List.getElem?_eq_none (Nat.le_refl _)])).trans (by simp)
end
theorem K3 {w:Ws} {v:AVal} {nm:String} {bt:B} {el:D} {P:B1→Prop} {b:Nat→Bool} {e:Nat→AVal} {n:Nat} (hv:∀ k,(toA w).its v k=some (tl n)[k]?) (hP:∀ m x,P m→P (Bd m nm x))
  (hb:∀ k,k < n→∀ m,P m→bt (Bd m nm (.id (.task k))) (toA w)=some (b k,toA w)) (he:∀ k,k < n→∀ m,P m→b k=true→el (Bd m nm (.id (.task k))) (toA w)=some (e k,toA w)) {N:Nat} {m:B1} (hn:n < N) (hm:P m) :
  Iq v (B3 nm) bt el N 0 [] m (toA w)=some (.flist (((List.range n).filter b).map e),toA w):=by
 have mem:∀ {x},x∈tl n→∃ k,k < n∧x=.id (.task k):=fun h=>by
  obtain ⟨k,hk,rfl⟩:=List.mem_map.mp h
  exact ⟨k,List.mem_range.mp hk,rfl⟩
 have h:=Hi (nm:=nm) (bt:=bt) (el:=el) (b:=fun x=>match x with | .id (.task k)=>b k | _=>false) (e:=fun x=>match x with | .id (.task k)=>e k | _=>.none) hv hP
  (fun x hx m hm=>by obtain ⟨k,hk,rfl⟩:=mem hx; exact hb k hk m hm) (fun x hx m hm hb'=>by obtain ⟨k,hk,rfl⟩:=mem hx; exact he k hk m hm hb') N 0 [] m (by rw [E1]; omega) (Nat.zero_le _) hm
 rw [h]
 refine congrArg (fun z=>some (AVal.flist z,toA w)) ?_
 rw [List.nil_append,List.drop_zero]
 unfold tl
 rw [List.filter_map,List.map_map]
 rfl
inductive Cl where
 | act | acc | comp | done
 deriving DecidableEq
noncomputable def V1 (t:TS):Cl→Prop
 | .acc=>t.st = "accepting" ∧ t.op=Me
 | .comp=>t.st = "completed"
 | .done=>t.st = "done"
 | .act=>t.st ≠ "accepting" ∧ t.st ≠ "completed" ∧ t.st ≠ "done" ∧ t.st ≠ "leaving" ∧ t.st ≠ "fresh"
noncomputable def Sts (w:Ws) (c:Nat→Cl):Prop:=∀ k,k < w.n→V1 (w.T k) (c k)
noncomputable def Po:Cl→Bool
 | .acc=>true
 | _=>false
noncomputable def D3:Cl→Bool
 | .done=>true
 | _=>false
noncomputable def Ew:Cl→Bool
 | .comp=>true
 | _=>false
theorem V1.st_eq {t:TS} {c:Cl} (h:V1 t c):(decide (t.st = "accepting")=Po c)∧(decide (t.st = "done")=D3 c)∧(decide (t.st = "completed")=Ew c)∧t.st ≠ "leaving" ∧ t.st ≠ "fresh" := by
 cases c with
 | acc=>obtain ⟨h,_⟩:=h; rw [h]; decide
 | comp=>have h:t.st = "completed" := h; rw [h]; decide
 | done=>have h:t.st = "done" := h; rw [h]; decide
 | act=>obtain ⟨h1,h2,h3,h4,h5⟩:=h; exact ⟨decide_eq_false h1,decide_eq_false h3,decide_eq_false h2,h4,h5⟩
theorem Yl {σ:AS} {p q:String}:cEq σ (.str p) (.str q)=some (decide (p=q)):=rfl
theorem Afg {σ:AS} {p q:String}:cNe σ (.str p) (.str q)=some (!decide (p=q)):=rfl
section
variable {w:Ws} {c:Nat→Cl} {k:Nat} (hs:Sts w c) (hk:k < w.n)
include hs hk
theorem Ky:B6 [.id (.task k)] (toA w)=some (.bool (Po (c k)),toA w):=by
 have ho:=hs k hk
 apply Bv rfl
 unfold Hv
 apply A8
 apply B7
 apply Oq
 ·exact Gv (Ay (Ac rfl) (Dw hk rfl)) Ah Yl
 ·exact rfl
 ·cases hc:c k with
  | acc =>
   rw [hc] at ho
   obtain ⟨h1,h2⟩:=ho
   apply Df (decide_eq_true h1)
   apply Gv
   ·apply D8
    ·exact Ay (Ac rfl) ((Ah0 hk rfl).trans (congrArg some h2))
    ·apply Als
     ·exact rfl
     ·exact rfl
     ·exact A4 (Ac rfl) Ah (Gu (by decide))
     apply An7
     ·exact rfl
     ·exact rfl
     ·exact A4 (Ac rfl) Ah (Jo rfl)
     ·exact Ac rfl
     exact Acp rfl
   ·exact Cj Au (Nat.zero_le _)
   ·exact rfl
  | _ =>
   have h1:=ho.st_eq.1
   rw [hc] at h1
   rw [h1]
   exact Dj rfl rfl
theorem Aat:∀ {m:B1} {x:String},m.lookup x=some (.id (.task k))→Bs cNe (A1 (Ad x) "state") (An (.str "done")) m (toA w)=some (!D3 (c k),toA w):=fun h=>by
 rw [← (hs k hk).st_eq.2.1]
 exact A4 (Ay (Ac h) (Dw hk rfl)) Ah Afg
end
theorem Bi {m:B1} {x:String} {v:AVal}:(Bd m x v).lookup x=some v:=by rw [Gf,if_pos rfl]
theorem Cq {m:B1} {x y:String} {v:AVal} (h:y≠x):(Bd m x v).lookup y=m.lookup y:=by rw [Gf,if_neg h]
theorem Ke {w:Ws} {v x:AVal} {nm:String} {bt:B} {el:D} {b:Bool} {e:AVal} {m:B1} {N:Nat} (hv:∀ k,(toA w).its v k=some ([x]:List AVal)[k]?) (hb:bt (Bd m nm x) (toA w)=some (b,toA w)) (he:b=true→el (Bd m nm x) (toA w)=some (e,toA w)) :
  Iq v (B3 nm) bt el (N + 2) 0 [] m (toA w)=some (.flist (if b then [e] else []),toA w):=by
 cases b with
 | true=>exact An7 (hv 0) rfl hb (he rfl) (Acp (hv 1))
 | false=>exact Als (hv 0) rfl hb (Acp (hv 1))
theorem Abm {w:Ws} {v:AVal} {T:Tg} {bt:B} {el:D} {m:B1} {N:Nat} (hv:(toA w).its v 0=some none):Iq v T bt el (N + 1) 0 [] m (toA w)=some (.flist [],toA w):=Acp hv
theorem R5 {σ:AS} {xs:List AVal}:cEq σ (.flist xs) (.flist [])=some xs.isEmpty:=by
 cases xs <;> rfl
theorem Am0 {σ:AS} {xs:List AVal}:cNe σ (.flist xs) (.flist [])=some !xs.isEmpty:=by
 cases xs <;> rfl
section
variable {w:Ws} {c:Nat→Cl} (hs:Sts w c)
include hs
theorem Sc {k:Nat} {m:MS} (hM:w.M k=some m) (hd:m.deps=[.id (.task (k + 1))]) (hk:k + 1 < w.n):Dm [.id (.master k)] (toA w)=some (.bool (D3 (c (k + 1))),toA w):=by
 apply Eq.trans
 ·apply Bv rfl
  unfold I2
  apply A8
  apply B7
  apply Gv
  ·apply D8
   ·exact Ay (Ac rfl) (Je hM)
   ·exact Ke (fun j=>B5 (by rw [← hd]; exact Jr hM)) (Aat hs hk rfl) fun J=>Ac rfl
  ·exact Cj Au (Nat.zero_le _)
  ·exact R5
 ·cases D3 (c (k + 1)) <;> rfl
theorem Aa0 (hd:w.lib.deps=[.id (.task 0)]) (hk:0 < w.n):Dm [.id .lib] (toA w)=some (.bool (D3 (c 0)),toA w):=by
 apply Eq.trans
 ·apply Bv rfl
  unfold I2
  apply A8
  apply B7
  apply Gv
  ·apply D8
   ·exact Ay (Ac rfl) rfl
   ·exact Ke (fun j=>B5 (by rw [← hd]; rfl)) (Aat hs hk rfl) fun J=>Ac rfl
  ·exact Cj Au (Nat.zero_le _)
  ·exact R5
 ·cases D3 (c 0) <;> rfl
theorem Aa1 (hd:w.lib.deps=tl w.n) (hn:w.n < 900):Dm [.id .lib] (toA w)=some (.bool ((List.range w.n).all fun k=>D3 (c k)),toA w):=by
 apply Eq.trans
 ·apply Bv rfl
  unfold I2
  apply A8
  apply B7
  apply Gv
  ·apply D8
   ·exact Ay (Ac rfl) rfl
   ·exact K3 (n:=w.n) (P:=fun J=>True) (fun j=>B5 (by rw [← hd]; rfl)) (fun J J J=>trivial) (fun k hk m J=>Aat hs hk Bi) (fun k hk m J J=>Ac Bi) (by omega) trivial
  ·exact Cj Au (Nat.zero_le _)
  ·exact R5
 ·refine congrArg (fun z=>some (AVal.bool z,toA w)) ?_
  rw [Bool.eq_iff_iff]
  simp [List.all_eq_true,List.filter_eq_nil_iff]
end
end
theorem Qi {w:Ws} (htn:w.tn=w.n) (hn:w.n < 900):Fc [.id .tasking] (toA w)=some (.bool false,toA w):=by
 obtain ⟨m',e1,e2⟩:=Abt (v:=.id .tasksL) (xs:=tl w.n) (nm := "task") (σ:=toA w) (n:=1000) (P:=fun m=>m.lookup "is_moved" = some (.bool false)) (m:=Bd (Dc ["tasking"] [.id .tasking]) "is_moved" (.bool false))
  (body:=Am (sIf (Dg (Cz (A1 (Ad "task") "is_abnormal")) (Dg (Bs cNe (A1 (Ad "task") "state") (An (.str "completed"))) (Dg (Bs cNe (A1 (Ad "task") "state") (An (.str "done"))) (Dg (Gk (Cz Adg)) (Cp true))))) Ez Aq) Aq)
  (fun k=>B5 (by rw [← htn]; rfl)) (fun x hx m hm=>by
   obtain ⟨k,hk,rfl⟩:=List.mem_map.mp hx
   have hk:=List.mem_range.mp hk
   refine ⟨Bd m "task" (.id (.task k)),?_,(Cq (by decide)).trans hm⟩
   apply Ak
   ·apply Br
    ·apply B2
     ·exact Bk (Ay (Ac Bi) (E9 hk rfl))
     ·exact Dj rfl rfl
    exact Ar
   exact Ar) (by rw [E1]; lia) rfl
 apply Bv rfl
 unfold Gw
 apply Ak
 ·exact A7 Ah
 apply Ak
 ·apply D4
  ·exact Ay (Ac rfl) rfl
  ·exact e1
 exact A8 (B7 (Ac e2))
noncomputable def endT (w:Ws) (Q:Nat→Bool) (i:Nat):Ws:={ w with T:=fun k=>if k < i∧Q k=true then (w.T k).s_st "done" else w.T k }
noncomputable def Zk (c:Nat→Cl) (Q:Nat→Bool) (i:Nat):Nat→Cl:=fun k=>if k < i∧Q k=true then .done else c k
theorem Abq {w:Ws} {c:Nat→Cl} {Q:Nat→Bool} (hs:Sts w c) (i:Nat):Sts (endT w Q i) (Zk c Q i):=fun k hk=>by
 show V1 (if k < i∧Q k=true then (w.T k).s_st "done" else w.T k) (if k < i∧Q k=true then .done else c k)
 split
 ·exact rfl
 ·exact hs k hk
structure EndQ (w:Ws) (c:Nat→Cl) (Q:Nat→Bool):Prop where
 yes:∀ k,k < w.n→Ew (c k)=true→(w.ms k=[]∧Q k=true)∨(w.ms k=[.id (.master k)]∧k + 1 < w.n∧∃ m,w.M k=some m∧m.deps=[.id (.task (k + 1))]∧Q k=D3 (c (k + 1)))
 no:∀ k,k < w.n→Ew (c k)=false→Q k=false
theorem Ob {w:Ws} {c:Nat→Cl} {Q:Nat→Bool} (hs:Sts w c) (htn:w.tn=w.n) (hn:w.n < 900) (hQ:EndQ w c Q) :
  Ha [.id .tasking] (toA w)=some (.bool ((List.range w.n).any Q),toA (endT w Q w.n)):=by
 have step:∀ i x,(tl w.n)[i]?=some x→∀ m σ,(σ=toA (endT w Q i)∧m.lookup "is_moved" = some (.bool ((List.range i).any Q))) →
   ∃ m' σ',(Am (sIf (Dg (Bs cEq (A1 (Ad "task") "state") (An (.str "leaving"))) (Dg (Cz (Az Dm (Af (Bg (A1 (Ad "task") "masters") (Aht (An (.int 1)))) Ap))) (Cp true))) Ez (Am (sIf (Dg (Bs cEq (A1 (Ad "task") "state") (An (.str "completed"))) (Dg (Bs cEq (C3 (A1 (Ad "task") "masters") (B3 "one") (Gk (Cz (Az Dm (Af (Ad "one") Ap)))) (Ad "one") [] 1000) (Db Ap)) (Cp true))) (Am (Bj (An (.str "done")) (Ad "task") "state") (Am (Bb "is_moved" (An (.bool true))) Aq)) Aq) Aq)) Aq) (Bd m "task" x) σ=some (.next,m',σ')∧(σ'=toA (endT w Q (i + 1))∧m'.lookup "is_moved" = some (.bool ((List.range (i + 1)).any Q))):=by
  intro i x hx m σ ⟨hσ,hm⟩
  subst hσ
  have hi:i < w.n:=by
   have:=List.getElem?_eq_some_iff.mp hx
   obtain ⟨h,_⟩:=this
   rw [E1] at h; exact h
  rw [Aax hi] at hx
  cases hx
  have hTi:(endT w Q i).T i=w.T i:=if_neg fun h=>Nat.lt_irrefl _ h.1
  have hci:=(hs i hi).st_eq
  have hsi:=Abq (Q:=Q) hs i
  have hany:(List.range (i + 1)).any Q=((List.range i).any Q || Q i):=by
   rw [List.range_succ,List.any_append]; simp
  have e1:Dg (Bs cEq (A1 (Ad "task") "state") (An (.str "leaving"))) (Dg (Cz (Az Dm (Af (Bg (A1 (Ad "task") "masters") (Aht (An (.int 1)))) Ap))) (Cp true)) (Bd m "task" (.id (.task i))) (toA (endT w Q i))=some (false,toA (endT w Q i)):=by
   apply B2
   ·exact A4 (Ay (Ac Bi) (Dw (w:=endT w Q i) hi hTi)) Ah (Gu hci.2.2.2.1)
   ·exact Dj rfl rfl
  cases hc:Ew (c i) with
  | false =>
   have hQi:=hQ.no i hi hc
   refine ⟨Bd m "task" (.id (.task i)),toA (endT w Q i),?_,?_,?_⟩
   ·apply Ak
    ·apply Br
     ·exact e1
     apply Ak
     ·apply Br
      ·apply B2
       ·exact A4 (Ay (Ac Bi) (Dw (w:=endT w Q i) hi hTi)) Ah Yl
       ·exact Dj (by rw [hci.2.2.1,hc]) rfl
      exact Ar
     exact Ar
    exact Ar
   ·refine congrArg toA ?_
    refine congrArg (fun f=>({ w with T:=f }:Ws)) (funext fun k=>?_)
    by_cases hk:k=i
    ·subst hk; rw [hQi]; simp
    ·have:k < i + 1 ↔ k < i:=by lia
     simp only [this]
   ·rw [Cq (by decide),hm,hany,hQi,Bool.or_false]
  | true =>
   obtain ⟨b,hcomp,hb⟩:∃ b,C3 (A1 (Ad "task") "masters") (B3 "one") (Gk (Cz (Az Dm (Af (Ad "one") Ap)))) (Ad "one") [] 1000 (Bd m "task" (.id (.task i))) (toA (endT w Q i))=some (.flist b,toA (endT w Q i))∧b.isEmpty=Q i:=by
    rcases hQ.yes i hi hc with ⟨h1,h2⟩ | ⟨h1,h2,mm,h3,h4,h5⟩
    ·refine ⟨[],?_,h2.symm⟩
     apply D8
     ·exact Ay (Ac Bi) (D6 (w:=endT w Q i) hi hTi)
     ·exact Abm (B5 (Md (w:=endT w Q i) hi h1))
    ·refine ⟨if !D3 (c (i + 1)) then [.id (.master i)] else [],?_,by rw [h5]; cases D3 (c (i + 1)) <;> rfl⟩
     have hce:Zk c Q i (i + 1)=c (i + 1):=if_neg fun h=>by lia
     apply D8
     ·exact Ay (Ac Bi) (D6 (w:=endT w Q i) hi hTi)
     ·refine Ke (fun j=>B5 (Md (w:=endT w Q i) hi h1)) (F9 (Bk (Aw (Ae (Ac Bi) Au) ?_))) fun J=>Ac Bi
      rw [← hce]
      exact Sc hsi h3 h4 h2
   have e2:Dg (Bs cEq (A1 (Ad "task") "state") (An (.str "completed"))) (Dg (Bs cEq (C3 (A1 (Ad "task") "masters") (B3 "one") (Gk (Cz (Az Dm (Af (Ad "one") Ap)))) (Ad "one") [] 1000) (Db Ap)) (Cp true)) (Bd m "task" (.id (.task i))) (toA (endT w Q i))=some (Q i,toA (endT w Q i)):=by
    apply B2
    ·exact A4 (Ay (Ac Bi) (Dw (w:=endT w Q i) hi hTi)) Ah Yl
    ·apply Df (by rw [hci.2.2.1,hc])
     apply B2
     ·exact A4 hcomp (Cj Au (Nat.zero_le _)) R5
     ·rw [hb]
      cases Q i <;> rfl
   cases hQi:Q i with
   | false =>
    rw [hQi] at e2
    refine ⟨Bd m "task" (.id (.task i)),toA (endT w Q i),?_,?_,?_⟩
    ·apply Ak
     ·apply Br
      ·exact e1
      apply Ak
      ·apply Br
       ·exact e2
       exact Ar
      exact Ar
     exact Ar
    ·refine congrArg toA ?_
     refine congrArg (fun f=>({ w with T:=f }:Ws)) (funext fun k=>?_)
     by_cases hk:k=i
     ·subst hk; rw [hQi]; simp
     ·have:k < i + 1 ↔ k < i:=by lia
      simp only [this]
    ·rw [Cq (by decide),hm,hany,hQi,Bool.or_false]
   | true =>
    rw [hQi] at e2
    refine ⟨Bd (Bd m "task" (.id (.task i))) "is_moved" (.bool true),toA ((endT w Q i).setT i ((w.T i).s_st "done")),?_,?_,?_⟩
    ·apply Ak
     ·apply Br
      ·exact e1
      apply Ak
      ·apply Cw
       ·exact e2
       apply Ak
       ·exact Ca Ah (Ac Bi) (Jn (w:=endT w Q i) hi hTi)
       apply Ak
       ·exact A7 Ah
       exact Ar
      exact Ar
     exact Ar
    ·refine congrArg toA ?_
     refine congrArg (fun f=>({ w with T:=f }:Ws)) (funext fun k=>?_)
     show (if k=i then (w.T i).s_st "done" else if k < i∧Q k=true then (w.T k).s_st "done" else w.T k)=if k < i + 1∧Q k=true then (w.T k).s_st "done" else w.T k
     by_cases hk:k=i
     ·subst hk; rw [if_pos rfl,if_pos ⟨Nat.lt_succ_self _,hQi⟩]
     ·have:k < i + 1 ↔ k < i:=by lia
      simp only [this,if_neg hk]
    ·rw [Bi,hany,hQi,Bool.or_true]
 have h0:toA w=toA (endT w Q 0):=congrArg toA (by
  have:(fun k=>if k < 0∧Q k=true then (w.T k).s_st "done" else w.T k)=w.T:=funext fun k=>if_neg fun h=>Nat.not_lt_zero _ h.1
  show w={ w with T:=fun k=>if k < 0∧Q k=true then (w.T k).s_st "done" else w.T k }
  rw [this]; cases w; rfl)
 obtain ⟨m',σ',e1,e2,e3⟩:=Jd (v:=.id .tasksL) (xs:=tl w.n) (nm := "task") (I:=fun i m σ=>σ=toA (endT w Q i)∧m.lookup "is_moved" = some (.bool ((List.range i).any Q)))
  (fun k m σ h=>by rw [h.1]; exact B5 (by rw [← htn]; rfl)) step 1000 0 (Bd (Dc ["tasking"] [.id .tasking]) "is_moved" (.bool false)) (toA w) (by rw [E1]; lia) (Nat.zero_le _) ⟨h0,rfl⟩
 rw [E1] at e2 e3
 subst e2
 apply Bv rfl
 unfold J8
 apply Ak
 ·exact A7 Ah
 apply Ak
 ·apply D4
  ·exact Ay (Ac rfl) rfl
  ·exact e1
 exact A8 (B7 (Ac e3))
theorem Agc {w:Ws} {Q:Nat→Bool} (h:∀ k,k < w.n→Q k=false):endT w Q w.n=w:=by
 have:(fun k=>if k < w.n∧Q k=true then (w.T k).s_st "done" else w.T k)=w.T:=funext fun k=>if_neg fun g=>by rw [h k g.1] at g; cases g.2
 show ({ w with T:=fun k=>if k < w.n∧Q k=true then (w.T k).s_st "done" else w.T k }:Ws)=w
 rw [this]; cases w; rfl
section
noncomputable def Ah6:Cl→Bool
 | .comp=>true
 | .done=>true
 | _=>false
noncomputable def Zm:Cl→Bool
 | .act=>false
 | _=>true
structure Arr (w:Ws) (nst:Bool) (c:Nat→Cl):Prop where
 tn:w.tn=w.n
 n0:0 < w.n
 n:w.n < 40
 sts:Sts w c
 libE:w.lib.ended=true
 lib0:nst=false→w.lib.deps=tl w.n
 lib1:nst=true→w.lib.deps=[.id (.task 0)]
 ms0:∀ k,k < w.n→(nst=false∨k + 1=w.n)→w.ms k=[]
 ms1:∀ k,nst=true→k + 1 < w.n→w.ms k=[.id (.master k)]∧∃ m,w.M k=some m∧m.deps=[.id (.task (k + 1))]∧m.ended=Ah6 (c k)
 fresh:∀ j,w.gn≤j→w.G j=none
theorem Arr.newG {w:Ws} {nst:Bool} {c:Nat→Cl} (A:Arr w nst c) (x:AObj):Arr (w.newG x) nst c :=
 ⟨A.tn,A.n0,A.n,A.sts,A.libE,A.lib0,A.lib1,A.ms0,A.ms1,fun j hj=>(Av _ _ (Nat.ne_of_gt hj)).trans (A.fresh j (Nat.le_of_succ_le hj))⟩
theorem Arr.g {w:Ws} {nst:Bool} {c:Nat→Cl} (A:Arr w nst c):w.G w.gn=none:=A.fresh _ (Nat.le_refl _)
noncomputable def qf (c:Nat→Cl):Nat→Nat→Bool
 | 0,k=>D3 (c k) || Zm (c k)
 | d + 1,k=>D3 (c k) || (Zm (c k) && qf c d (k + 1))
section
variable {w:Ws} {c:Nat→Cl}
theorem M8 {rec:Fd} {k:Nat} {m:B1} (hs:Sts w c) (hk:k < w.n) (hm:m.lookup "task" = some (.id (.task k))) :
  Bs cEq (A1 (Ad "task") "state") (An (.str "done")) m (toA w)=some (D3 (c k),toA w) ∧
  Dg (Gk (Cz (Az B6 (Af (Ad "task") Ap)))) (Dg (Bs cNe (A1 (Ad "task") "state") (An (.str "completed"))) (Cp true)) m (toA w)=some (!Po (c k) && !Ew (c k),toA w):=by
 have hc:=(hs k hk).st_eq
 refine ⟨?_,?_⟩
 ·rw [← hc.2.1]
  exact A4 (Ay (Ac hm) (Dw hk rfl)) Ah Yl
 ·apply B2
  ·exact F9 (Bk (Aw (Ae (Ac hm) Au) (Ky hs hk)))
  ·cases h:Po (c k) with
   | true=>exact Dj rfl rfl
   | false =>
    apply Df rfl
    apply B2
    ·exact A4 (Ay (Ac hm) (Dw hk rfl)) Ah Afg
    ·rw [hc.2.2.1]
     cases Ew (c k) <;> rfl
theorem Akn {f k:Nat} (A:Arr w false c) (hk:k < w.n):Dp (f + 1) [.id (.task k)] (toA w)=some (.bool (Zm (c k)),toA w):=by
 obtain ⟨q1,q2⟩:=M8 (rec:=Dp f) (m:=Dc ["task"] [.id (.task k)]) A.sts hk rfl
 show C0 ["task"] (Ep (Dp f)) _ _=_
 apply Bv rfl
 unfold Ep
 cases hc:c k with
 | done =>
  rw [hc] at q1
  exact A8 (Cw q1 (A8 (B7 Ah)))
 | act =>
  rw [hc] at q1 q2
  exact Ak (Br q1 Ar) (A8 (Cw q2 (A8 (B7 Ah))))
 | _ =>
  rw [hc] at q1 q2
  refine Ak (Br q1 Ar) (Ak (Br q2 Ar) (Ak (D4 (Ay (Ac rfl) (D6 hk rfl)) (Eh (B5 (Md hk (A.ms0 k hk (.inl rfl)))))) (A8 (B7 Ah))))
theorem Acz (A:Arr w true c):∀ d k,k + d + 1=w.n→∀ f,d < f→Dp f [.id (.task k)] (toA w)=some (.bool (qf c d k),toA w):=by
 intro d
 induction d with
 | zero =>
  intro k hk f hf
  obtain ⟨f,rfl⟩:∃ f',f=f' + 1:=⟨f - 1,by lia⟩
  have hkn:k < w.n:=by lia
  obtain ⟨q1,q2⟩:=M8 (rec:=Dp f) (m:=Dc ["task"] [.id (.task k)]) A.sts hkn rfl
  show C0 ["task"] (Ep (Dp f)) _ _=_
  apply Bv rfl
  unfold Ep qf
  cases hc:c k with
  | done =>
   rw [hc] at q1
   exact A8 (Cw q1 (A8 (B7 Ah)))
  | act =>
   rw [hc] at q1 q2
   exact Ak (Br q1 Ar) (A8 (Cw q2 (A8 (B7 Ah))))
  | _ =>
   rw [hc] at q1 q2
   refine Ak (Br q1 Ar) (Ak (Br q2 Ar) (Ak (D4 (Ay (Ac rfl) (D6 hkn rfl)) (Eh (B5 (Md hkn (A.ms0 k hkn (.inr (by lia))))))) (A8 (B7 Ah))))
 | succ d ih =>
  intro k hk f hf
  obtain ⟨f,rfl⟩:∃ f',f=f' + 1:=⟨f - 1,by lia⟩
  have hkn:k < w.n:=by lia
  obtain ⟨q1,q2⟩:=M8 (rec:=Dp f) (m:=Dc ["task"] [.id (.task k)]) A.sts hkn rfl
  have hrec:=ih (k + 1) (by lia) f (by lia)
  obtain ⟨h1,mm,h2,h3,_⟩:=A.ms1 k rfl (by lia)
  have hdi:toR w (.deps k)=some (.list [.id (.task (k + 1))]):=by rw [← h3]; exact Jr h2
  show C0 ["task"] (Ep (Dp f)) _ _=_
  unfold qf
  cases hc:c k with
  | done =>
   apply Bv rfl
   unfold Ep
   rw [hc] at q1
   exact A8 (Cw q1 (A8 (B7 Ah)))
  | act =>
   apply Bv rfl
   unfold Ep
   rw [hc] at q1 q2
   exact Ak (Br q1 Ar) (A8 (Cw q2 (A8 (B7 Ah))))
  | _ =>
   rw [hc] at q1 q2
   apply Bv rfl
   unfold Ep
   apply Ak (Br q1 Ar)
   apply Ak (Br q2 Ar)
   cases hq:qf c d (k + 1) with
   | true =>
    rw [hq] at hrec
    apply Ak
    ·apply D4 (Ay (Ac rfl) (D6 hkn rfl))
     apply Fj (B5 (Md hkn h1)) rfl
     ·apply Ak
      ·apply D4 (Ay (Ac rfl) (Je h2))
       apply Fj (B5 hdi) rfl
       ·apply Ak
        ·apply Br
         ·exact F9 (Bk (Aw (Ae (Ac rfl) Au) hrec))
         exact Ar
        exact Ar
       exact Eh (B5 hdi)
      exact Ar
     exact Eh (B5 (Md hkn h1))
    exact A8 (B7 Ah)
   | false =>
    rw [hq] at hrec
    apply A8
    apply D4 (Ay (Ac rfl) (D6 hkn rfl))
    apply U8 (B5 (Md hkn h1)) rfl
    apply A8
    apply D4 (Ay (Ac rfl) (Je h2))
    apply U8 (B5 hdi) rfl
    apply A8
    apply Cw
    ·exact F9 (Bk (Aw (Ae (Ac rfl) Au) hrec))
    exact A8 (B7 Ah)
end
theorem Agy {w:Ws} {x y:AObj}:(w.newG x).setG w.gn y=w.newG y:=by
 show ({ w with G:=updN (updN w.G w.gn (some x)) w.gn (some y),gn:=w.gn + 1 }:Ws)={ w with G:=updN w.G w.gn (some y),gn:=w.gn + 1 }
 rw [Cb]
theorem Ak7 {w:Ws} {xs ys:List AVal} (h:xs.length + ys.length≤1000000):Nt (toA (w.newG (.list xs))) (.id (.tmp w.gn)) [.flist ys]=some (.none,toA (w.newG (.list (xs++ys)))):=by
 unfold Nt
 dsimp only
 rw [show (toA (w.newG (.list xs))).R (.tmp w.gn)=some (.list xs) from Al ..]
 show (some ys).bind _=_
 rw [Option.bind_some]
 refine (if_pos h).trans ?_
 rw [Aau,Agy]
noncomputable def emB (n:Nat) (nst:Bool) (c:Nat→Cl) (k:Nat):Bool:=nst && decide (k + 1 < n) && Ah6 (c k)
noncomputable def em (n:Nat) (nst:Bool) (c:Nat→Cl) (i:Nat):List AVal:=((List.range i).filter (emB n nst c)).map fun k=>.id (.master k)
theorem Adh (n:Nat) (nst:Bool) (c:Nat→Cl) (i:Nat):(em n nst c i).length≤i:=by
 unfold em
 rw [List.length_map]
 exact Nat.le_trans (List.length_filter_le _ _) (by rw [List.length_range]; exact Nat.le_refl _)
end
section
theorem Ak4 (n:Nat) (nst:Bool) (c:Nat→Cl) (i:Nat):em n nst c (i + 1)=em n nst c i++if emB n nst c i then [.id (.master i)] else []:=by
 unfold em
 rw [List.range_succ,List.filter_append,List.map_append]
 congr 1
 cases h:emB n nst c i <;> simp [h]
theorem Afs {w:Ws} {nst:Bool} {c:Nat→Cl} (A:Arr w nst c):Hq [.id .tasking] (toA w)=some (.id (.tmp w.gn),toA (w.newG (.list (.id .lib :: em w.n nst c w.n)))):=by
 have step:∀ i x,(tl w.n)[i]?=some x→∀ m σ,(σ=toA (w.newG (.list (.id .lib :: em w.n nst c i)))∧m.lookup "found" = some (.id (.tmp w.gn))) →
   ∃ m' σ',(Am (Bw (Ed "list" Nt (Ad "found") (Af (C3 (A1 (Ad "task") "masters") (B3 "master") (Cz (A1 (Ad "master") "is_ended")) (Ad "master") [] 1000) Ap))) Aq) (Bd m "task" x) σ=some (.next,m',σ')∧(σ'=toA (w.newG (.list (.id .lib :: em w.n nst c (i + 1))))∧m'.lookup "found" = some (.id (.tmp w.gn))):=by
  intro i x hx m σ ⟨hσ,hm⟩
  subst hσ
  have hi:i < w.n:=by
   obtain ⟨h,_⟩:=List.getElem?_eq_some_iff.mp hx
   rw [E1] at h; exact h
  rw [Aax hi] at hx
  cases hx
  have A':=A.newG (.list (.id .lib :: em w.n nst c i))
  have hcomp:C3 (A1 (Ad "task") "masters") (B3 "master") (Cz (A1 (Ad "master") "is_ended")) (Ad "master") [] 1000 (Bd m "task" (.id (.task i))) (toA (w.newG (.list (.id .lib :: em w.n nst c i))))=some (.flist (if emB w.n nst c i then [.id (.master i)] else []),toA (w.newG (.list (.id .lib :: em w.n nst c i)))):=by
   by_cases h:nst=true∧i + 1 < w.n
   ·obtain ⟨h1,mm,h2,h3,h4⟩:=A.ms1 i h.1 h.2
    have hb:emB w.n nst c i=mm.ended:=by rw [h4]; simp [emB,h.1,h.2]
    rw [hb]
    apply D8
    ·exact Ay (Ac Bi) (D6 (w:=w.newG (.list (.id .lib :: em w.n nst c i))) hi rfl)
    ·apply Ke
     ·intro j; exact B5 (Md (w:=w.newG (.list (.id .lib :: em w.n nst c i))) hi h1)
     ·apply Bk
      apply Ay (Ac Bi)
      apply Ah3
      exact h2
     ·intro _; exact Ac Bi
   ·have h1:=A.ms0 i hi (by
     cases nst with
     | false=>exact .inl rfl
     | true=>right; have:¬(i + 1 < w.n):=fun z=>h ⟨rfl,z⟩; omega)
    have hb:emB w.n nst c i=false:=by
     cases nst with
     | false=>rfl
     | true =>
      have:¬(i + 1 < w.n):=fun z=>h ⟨rfl,z⟩
      simp [emB,this]
    rw [hb]
    apply D8
    ·exact Ay (Ac Bi) (D6 (w:=w.newG (.list (.id .lib :: em w.n nst c i))) hi rfl)
    ·apply Abm
     exact B5 (Md (w:=w.newG (.list (.id .lib :: em w.n nst c i))) hi h1)
  rw [Ak4]
  refine ⟨Bd m "task" (.id (.task i)),toA (w.newG (.list (.id .lib :: (em w.n nst c i++if emB w.n nst c i then [.id (.master i)] else [])))),?_,rfl,(Cq (by decide)).trans hm⟩
  apply Ak
  ·apply Bo
   apply Dv
   ·exact Ac ((Cq (by decide)).trans hm)
   ·exact Cv (Qm (w:=w.newG (.list (.id .lib :: em w.n nst c i))) (Al _ _ _))
   ·exact Ae hcomp Au
   ·exact Ak7 (by
     have:=Adh w.n nst c i
     have:=A.n
     have:(if emB w.n nst c i then [AVal.id (.master i)] else []).length≤1:=by split <;> simp
     simp only [List.length_cons]; omega)
  exact Ar
 obtain ⟨m',σ',e1,e2,e3⟩:=Jd (v:=.id .tasksL) (xs:=tl w.n) (nm := "task") (I:=fun i m σ=>σ=toA (w.newG (.list (.id .lib :: em w.n nst c i)))∧m.lookup "found" = some (.id (.tmp w.gn)))
  (fun k m σ h=>by rw [h.1]; exact B5 (by rw [← A.tn]; rfl)) step 1000 0 (Bd (Dc ["tasking"] [.id .tasking]) "found" (.id (.tmp w.gn))) (toA (w.newG (.list [.id .lib]))) (by rw [E1]; have:=A.n; omega) (Nat.zero_le _) ⟨rfl,rfl⟩
 rw [E1] at e2
 subst e2
 apply Bv rfl
 unfold Hw
 apply Ak
 ·apply A7
  apply Jp (t:=true)
  ·exact Bk (Ay (Ay (Ac rfl) rfl) (congrArg (fun z=>some (AVal.bool z)) A.libE))
  ·apply Df rfl
   apply Hc
   ·exact Ae (Ay (Ac rfl) rfl) Au
   ·exact Nat.le_of_ble_eq_true rfl
   ·exact rfl
   ·exact O4 A.g
 apply Ak
 ·apply D4
  ·exact Ay (Ac rfl) rfl
  ·exact e1
 exact A8 (B7 (Ac e3))
noncomputable def T2:B:=(Dg (Gk (Cz (Az Dm (Af (Ad "master") Ap)))) (Dg (Bs cEq (C3 (A1 (Ad "master") "dependents") (B3 "task") (Gk (Cz (Az (Dp 40) (Af (Ad "task") Ap)))) (Ad "task") [] 1000) (Db Ap)) (Cp true)))
noncomputable def Jk (n:Nat) (nst:Bool) (c:Nat→Cl):Bool:=if nst then D3 (c 0) else (List.range n).all fun k=>D3 (c k)
noncomputable def Gs (n:Nat) (nst:Bool) (c:Nat→Cl):Bool:=if nst then qf c (n - 1) 0 else (List.range n).all fun k=>Zm (c k)
section
variable {w:Ws} {nst:Bool} {c:Nat→Cl} (A:Arr w nst c)
include A
theorem Abn {m:B1} (hm:m.lookup "master" = some (.id .lib)):T2 m (toA w)=some (!Jk w.n nst c && Gs w.n nst c,toA w):=by
 have hn:=A.n
 have hn0:=A.n0
 have hcomp:∃ l,C3 (A1 (Ad "master") "dependents") (B3 "task") (Gk (Cz (Az (Dp 40) (Af (Ad "task") Ap)))) (Ad "task") [] 1000 m (toA w)=some (.flist l,toA w)∧l.isEmpty=Gs w.n nst c:=by
  cases nst with
  | false =>
   refine ⟨_,D8 (Ay (Ac hm) rfl) (K3 (n:=w.n) (P:=fun J=>True) (b:=fun k=>!Zm (c k)) (fun j=>B5 (by rw [← A.lib0 rfl]; rfl)) (fun J J J=>trivial) (fun k hk m J=>F9 (Bk (Aw (Ae (Ac Bi) Au) (Akn A hk)))) (fun k hk m J J=>Ac Bi) (by omega) trivial),?_⟩
   rw [Bool.eq_iff_iff]
   simp [Gs,List.all_eq_true,List.filter_eq_nil_iff]
  | true =>
   refine ⟨_,D8 (Ay (Ac hm) rfl) (Ke (fun j=>B5 (by rw [← A.lib1 rfl]; rfl)) (F9 (Bk (Aw (Ae (Ac Bi) Au) (Acz A (w.n - 1) 0 (by omega) 40 (by omega))))) fun J=>Ac Bi),?_⟩
   show (if (!qf c (w.n - 1) 0)=true then [AVal.id (.task 0)] else []).isEmpty=qf c (w.n - 1) 0
   cases qf c (w.n - 1) 0 <;> rfl
 have hdone:Dm [.id .lib] (toA w)=some (.bool (Jk w.n nst c),toA w):=by
  cases nst with
  | false=>exact Aa1 A.sts (A.lib0 rfl) (by omega)
  | true=>exact Aa0 A.sts (A.lib1 rfl) hn0
 obtain ⟨l,h1,h2⟩:=hcomp
 unfold T2
 apply B2
 ·exact F9 (Bk (Aw (Ae (Ac hm) Au) hdone))
 ·cases Jk w.n nst c with
  | true=>exact Dj rfl rfl
  | false =>
   apply Df rfl
   apply B2
   ·exact A4 h1 (Cj Au (Nat.zero_le _)) R5
   ·rw [h2]
    cases Gs w.n nst c <;> rfl
end
theorem Abo {w:Ws} {c:Nat→Cl} (A:Arr w true c) {k:Nat} (hk:k + 1 < w.n) {m:B1} (hm:m.lookup "master" = some (.id (.master k))):T2 m (toA w)=some (!D3 (c (k + 1)) && qf c (w.n - 2 - k) (k + 1),toA w):=by
 have hn:=A.n
 obtain ⟨h1,mm,h2,h3,h4⟩:=A.ms1 k rfl hk
 have hdi:toR w (.deps k)=some (.list [.id (.task (k + 1))]):=by rw [← h3]; exact Jr h2
 have hcomp:C3 (A1 (Ad "master") "dependents") (B3 "task") (Gk (Cz (Az (Dp 40) (Af (Ad "task") Ap)))) (Ad "task") [] 1000 m (toA w)=some (.flist (if (!qf c (w.n - 2 - k) (k + 1))=true then [.id (.task (k + 1))] else []),toA w) :=
  D8 (Ay (Ac hm) (Je h2)) (Ke (fun j=>B5 hdi) (F9 (Bk (Aw (Ae (Ac Bi) Au) (Acz A (w.n - 2 - k) (k + 1) (by omega) 40 (by omega))))) fun J=>Ac Bi)
 unfold T2
 apply B2
 ·exact F9 (Bk (Aw (Ae (Ac hm) Au) (Sc A.sts h2 h3 hk)))
 ·cases D3 (c (k + 1)) with
  | true=>exact Dj rfl rfl
  | false =>
   apply Df rfl
   apply B2
   ·exact A4 hcomp (Cj Au (Nat.zero_le _)) R5
   ·cases qf c (w.n - 2 - k) (k + 1) <;> rfl
theorem Qk {w:Ws} {nst:Bool} {c:Nat→Cl} (A:Arr w nst c) (h1:Jk w.n nst c=true∨Gs w.n nst c=false) (h2:∀ k,nst=true→k + 1 < w.n→Ah6 (c k)=true→D3 (c (k + 1))=true∨qf c (w.n - 2 - k) (k + 1)=false) :
  C2 [.id .tasking] (toA w)=some (.bool false,toA (w.newG (.list (.id .lib :: em w.n nst c w.n)))):=by
 have A':=A.newG (.list (.id .lib :: em w.n nst c w.n))
 have hn:=A.n
 obtain ⟨m',e1,e2⟩:=Abt (v:=.id (.tmp w.gn)) (xs:=.id .lib :: em w.n nst c w.n) (nm := "master") (σ:=toA (w.newG (.list (.id .lib :: em w.n nst c w.n)))) (n:=1000) (P:=fun m=>m.lookup "is_moved" = some (.bool false)) (m:=Bd (Dc ["tasking"] [.id .tasking]) "is_moved" (.bool false))
  (body:=Am (sIf T2 (Am (Bb "waiting" (C3 (A1 (Ad "tasking") "tasks") (B3 "task") (Cz (Az B6 (Af (Ad "task") Ap))) (Ad "task") [] 1000)) (Am (Ey (A1 (Ad "master") "dependents") (B3 "task") (Am (Bw (Az (Cr 40) (Af (Ad "task") Ap))) Aq) 1000) (Am (sIf (Bs cNe (C3 (Ad "waiting") (B3 "task") (Gk (Cz (Az B6 (Af (Ad "task") Ap)))) (Ad "task") [] 1000) (Db Ap)) (Am (Bb "is_moved" (An (.bool true))) Aq) Aq) Aq))) Aq) Aq)
  (fun k=>B5 (Qm (w:=w.newG (.list (.id .lib :: em w.n nst c w.n))) (Al _ _ _))) (fun x hx m hm=>by
   refine ⟨Bd m "master" x,?_,(Cq (by decide)).trans hm⟩
   have hcond:T2 (Bd m "master" x) (toA (w.newG (.list (.id .lib :: em w.n nst c w.n))))=some (false,toA (w.newG (.list (.id .lib :: em w.n nst c w.n)))):=by
    rcases List.mem_cons.mp hx with rfl | hx
    ·rw [Abn A' Bi]
     refine congrArg (fun z=>some (z,_)) ?_
     show (!Jk w.n nst c && Gs w.n nst c)=false
     rcases h1 with h | h <;> rw [h] <;> simp
    ·obtain ⟨k,hk,rfl⟩:=List.mem_map.mp hx
     obtain ⟨hk1,hk2⟩:=List.mem_filter.mp hk
     simp only [emB,Bool.and_eq_true,decide_eq_true_eq] at hk2
     obtain ⟨⟨rfl,hk3⟩,hk4⟩:=hk2
     rw [Abo A' hk3 Bi]
     refine congrArg (fun z=>some (z,_)) ?_
     show (!D3 (c (k + 1)) && qf c (w.n - 2 - k) (k + 1))=false
     rcases h2 k rfl hk3 hk4 with h | h <;> rw [h] <;> simp
   apply Ak
   ·apply Br hcond
    exact Ar
   exact Ar) (by have:=Adh w.n nst c w.n; simp only [List.length_cons]; omega) rfl
 apply Bv rfl
 unfold Es
 apply Ak
 ·exact A7 Ah
 apply Ak
 ·apply D4
  ·exact Aw (Ae (Ac rfl) Au) (Afs A)
  ·exact e1
 exact A8 (B7 (Ac e2))
end
inductive Same (w w':Ws):Prop
 | mk (T:Nat→TS) (M:Nat→Option MS) (G:Nat→Option AObj) (g:Nat) (s:Int) (e:w'={ w with T:=T,M:=M,G:=G,gn:=g,settled:=s }) (l:w.gn≤g) (k:∀ j,j < w.gn→G j=w.G j):Same w w'
theorem Same.refl (w:Ws):Same w w:=⟨w.T,w.M,w.G,w.gn,w.settled,by cases w; rfl,Nat.le_refl _,fun J J=>rfl⟩
theorem Same.trans {a b c:Ws} (h:Same a b) (h':Same b c):Same a c:=by
 obtain ⟨T,M,G,g,s,rfl,l,k⟩:=h
 obtain ⟨T',M',G',g',s',rfl,l',k'⟩:=h'
 exact ⟨T',M',G',g',s',rfl,Nat.le_trans l l',fun j hj=>(k' j (Nat.lt_of_lt_of_le hj l)).trans (k j hj)⟩
theorem Same.n {a b:Ws} (h:Same a b):b.n=a.n:=by obtain ⟨T,M,G,g,s,rfl,_⟩:=h; rfl
theorem Same.q {a b:Ws} (h:Same a b):b.q=a.q:=by obtain ⟨T,M,G,g,s,rfl,_⟩:=h; rfl
theorem Same.sv {a b:Ws} (h:Same a b):b.sv=a.sv:=by obtain ⟨T,M,G,g,s,rfl,_⟩:=h; rfl
theorem Same.keepG {a b:Ws} (h:Same a b):∀ j,j < a.gn→b.G j=a.G j:=by obtain ⟨T,M,G,g,s,rfl,_,k⟩:=h; exact k
theorem Same.gn {a b:Ws} (h:Same a b):a.gn≤b.gn:=by obtain ⟨T,M,G,g,s,rfl,l,_⟩:=h; exact l
theorem Same.newG (w:Ws) (x:AObj):Same w (w.newG x):=⟨w.T,w.M,updN w.G w.gn (some x),w.gn + 1,w.settled,rfl,Nat.le_succ _,fun j hj=>Av _ _ (Nat.ne_of_lt hj)⟩
theorem Arr.congr {w:Ws} {nst:Bool} {c c':Nat→Cl} (A:Arr w nst c) (h:∀ k,k < w.n→c' k=c k):Arr w nst c' :=
 ⟨A.tn,A.n0,A.n,fun k hk=>by rw [h k hk]; exact A.sts k hk,A.libE,A.lib0,A.lib1,A.ms0,fun k h1 h2=>by rw [h k (Nat.lt_of_succ_lt h2)]; exact A.ms1 k h1 h2,A.fresh⟩
noncomputable def Qd (w:Ws) (c:Nat→Cl):Prop:=∀ k,k < w.n→c k=.acc→w.q k=none∧w.sv k=[]∧(w.T k).act=.none
theorem Aln (t:TS):V1 t.over .comp:=rfl
theorem Aej {w:Ws} {nst:Bool} {c:Nat→Cl} {k:Nat} (A:Arr w nst c) (Q:Qd w c) (hk:k < w.n) (hc:c k=.acc) :
  ∃ w',C7 [.id (.task k)] (toA w)=some (.none,toA w')∧Arr w' nst (updN c k .comp)∧Same w w'∧∀ j,j≠k→w'.T j=w.T j:=by
 obtain ⟨q1,q2,q3⟩:=Q k hk hc
 have sts:∀ {T:Nat→TS},T=updN w.T k (w.T k).over→∀ j,j < w.n→V1 (T j) (updN c k .comp j):=fun e j hj=>by
  subst e
  by_cases h:j=k
  ·subst h; rw [Al,Al]; exact Aln _
  ·rw [Av _ _ h,Av _ _ h]; exact A.sts j hj
 by_cases h:nst=true∧k + 1 < w.n
 ·obtain ⟨h1,mm,h2,h3,h4⟩:=A.ms1 k h.1 h.2
  refine ⟨w.done1 k (w.T k) mm,Se hk rfl q1 A.g q2 q3 h1 h2 h3 h.2 rfl (by lia) (A.sts (k + 1) h.2).st_eq.2.2.2.2,?_,⟨_,_,_,_,_,rfl,Nat.le_succ _,fun j hj=>Av _ _ (Nat.ne_of_lt hj)⟩,fun j hj=>Av _ _ hj⟩
  refine ⟨A.tn,A.n0,A.n,sts rfl,A.libE,A.lib0,A.lib1,A.ms0,fun j hj1 hj2=>?_,fun j hj=>(Av _ _ (Nat.ne_of_gt hj)).trans (A.fresh j (Nat.le_of_succ_le hj))⟩
  obtain ⟨g1,mj,g2,g3,g4⟩:=A.ms1 j hj1 hj2
  refine ⟨g1,?_⟩
  by_cases hjk:j=k
  ·subst hjk
   exact ⟨_,Al _ _ _,h3,by rw [Al]; rfl⟩
  ·exact ⟨mj,(Av _ _ hjk).trans g2,g3,by rw [Av _ _ hjk]; exact g4⟩
 ·have h1:=A.ms0 k hk (by
   cases nst with
   | false=>exact .inl rfl
   | true=>right; have:¬(k + 1 < w.n):=fun z=>h ⟨rfl,z⟩; lia)
  refine ⟨(w.newG (.qdict none)).setT k (w.T k).over,Sd hk rfl q1 A.g q2 q3 h1,?_,⟨_,_,_,_,_,rfl,Nat.le_succ _,fun j hj=>Av _ _ (Nat.ne_of_lt hj)⟩,fun j hj=>Av _ _ hj⟩
  refine ⟨A.tn,A.n0,A.n,sts rfl,A.libE,A.lib0,A.lib1,A.ms0,fun j hj1 hj2=>?_,(A.newG _).fresh⟩
  have hjk:j≠k:=fun z=>h (by subst z; exact ⟨hj1,hj2⟩)
  rw [Av _ _ hjk]
  exact A.ms1 j hj1 hj2
theorem Aaw {w:Ws} {nst:Bool} {c:Nat→Cl} {k:Nat} {m:B1} (A:Arr w nst c) (Q:Qd w c) (hk:k < w.n) (hm:m.lookup "task" = some (.id (.task k))) :
  ∃ w',Am (sIf (Cz (Az B6 (Af (Ad "task") Ap))) (Am (Bw (Az C7 (Af (Ad "task") Ap))) Aq) Aq) Aq m (toA w)=some (.next,m,toA w')∧Arr w' nst (if c k=.acc then updN c k .comp else c)∧Same w w'∧∀ j,j≠k→w'.T j=w.T j:=by
 by_cases h:c k=.acc
 ·obtain ⟨w',h1,h2,h3,h4⟩:=Aej A Q hk h
  refine ⟨w',?_,by rw [if_pos h]; exact h2,h3,h4⟩
  have e:=Ky A.sts hk
  rw [h] at e
  exact Ak (Cw (Bk (Aw (Ae (Ac hm) Au) e)) (Ak (Bo (Aw (Ae (Ac hm) Au) h1)) Ar)) Ar
 ·refine ⟨w,?_,by rw [if_neg h]; exact A,Same.refl w,fun J J=>rfl⟩
  have e:=Ky A.sts hk
  have:Po (c k)=false:=by cases hc:c k <;> first | rfl | exact absurd hc h
  rw [this] at e
  exact Ak (Br (Bk (Aw (Ae (Ac hm) Au) e)) Ar) Ar
noncomputable def Nz (c:Nat→Cl) (k:Nat):Nat→Cl:=fun j=>if k≤j∧c j=.acc then .comp else c j
noncomputable def O7 (c:Nat→Cl) (k:Nat):Nat→Cl:=fun j=>if j < k∧c j=.acc then .comp else c j
noncomputable def Qw (c:Nat→Cl):Nat→Cl:=fun j=>if c j=.acc then .comp else c j
theorem Af7 (c:Nat→Cl) (k:Nat):(if Nz c (k + 1) k=.acc then updN (Nz c (k + 1)) k .comp else Nz c (k + 1))=Nz c k:=by
 have e:Nz c (k + 1) k=c k:=if_neg fun h=>by lia
 funext j
 rw [e]
 by_cases hj:j=k
 ·subst hj
  by_cases h:c j=.acc
  ·rw [if_pos h,Al]; exact (if_pos ⟨Nat.le_refl _,h⟩).symm
  ·rw [if_neg h,e]; exact (if_neg fun g=>h g.2).symm
 ·have:(if c k=.acc then updN (Nz c (k + 1)) k .comp else Nz c (k + 1)) j=Nz c (k + 1) j:=by split <;> first | exact Av _ _ hj | rfl
  rw [this]
  unfold Nz
  have h2:(k + 1≤j) ↔ k≤j:=by lia
  simp only [h2]
theorem Af8 (c:Nat→Cl) (k:Nat):(if O7 c k k=.acc then updN (O7 c k) k .comp else O7 c k)=O7 c (k + 1):=by
 have e:O7 c k k=c k:=if_neg fun h=>by lia
 funext j
 rw [e]
 by_cases hj:j=k
 ·subst hj
  by_cases h:c j=.acc
  ·rw [if_pos h,Al]; exact (if_pos ⟨Nat.lt_succ_self _,h⟩).symm
  ·rw [if_neg h,e]; exact (if_neg fun g=>h g.2).symm
 ·have:(if c k=.acc then updN (O7 c k) k .comp else O7 c k) j=O7 c k j:=by split <;> first | exact Av _ _ hj | rfl
  rw [this]
  unfold O7
  have h2:(j < k + 1) ↔ j < k:=by lia
  simp only [h2]
theorem Apb {w:Ws} {c:Nat→Cl} {k f:Nat} (A:Arr w false c) (Q:Qd w c) (hk:k < w.n) :
  ∃ w',Cr (f + 1) [.id (.task k)] (toA w)=some (.none,toA w')∧Arr w' false (if c k=.acc then updN c k .comp else c)∧Same w w'∧∀ j,j≠k→w'.T j=w.T j:=by
 obtain ⟨w',h1,h2⟩:=Aaw (m:=Dc ["task"] [.id (.task k)]) A Q hk rfl
 refine ⟨w',?_,h2⟩
 show C0 ["task"] (De (Cr f)) _ _=_
 apply Ch rfl
 unfold De
 apply Ak
 ·apply D4 (Ay (Ac rfl) (D6 hk rfl))
  exact Eh (B5 (Md hk (A.ms0 k hk (.inl rfl))))
 exact h1
theorem Am9:∀ d k (w:Ws) (c:Nat→Cl),k + d + 1=w.n→Arr w true c→Qd w c→∀ f,d < f →
  ∃ w',Cr f [.id (.task k)] (toA w)=some (.none,toA w')∧Arr w' true (Nz c k)∧Same w w'∧∀ j,j < k→w'.T j=w.T j:=by
 intro d
 induction d with
 | zero =>
  intro k w c hk A Q f hf
  obtain ⟨f,rfl⟩:∃ f',f=f' + 1:=⟨f - 1,by lia⟩
  have hkn:k < w.n:=by lia
  obtain ⟨w',h1,h2,h3,h4⟩:=Aaw (m:=Dc ["task"] [.id (.task k)]) A Q hkn rfl
  refine ⟨w',?_,h2.congr fun j hj=>?_,h3,fun j hj=>h4 j (Nat.ne_of_lt hj)⟩
  ·show C0 ["task"] (De (Cr f)) _ _=_
   apply Ch rfl
   unfold De
   apply Ak
   ·apply D4 (Ay (Ac rfl) (D6 hkn rfl))
    exact Eh (B5 (Md hkn (A.ms0 k hkn (.inr (by lia)))))
   exact h1
  ·rw [h3.n] at hj
   unfold Nz
   by_cases hjk:j=k
   ·subst hjk
    by_cases h:c j=.acc
    ·rw [if_pos h,if_pos ⟨Nat.le_refl _,h⟩,Al]
    ·rw [if_neg h,if_neg fun g=>h g.2]
   ·have e1:¬(k≤j∧c j=.acc):=fun g=>by lia
    rw [if_neg e1]
    (set_option tactic.hygienic true in split) <;> first | exact (Av _ _ hjk).symm | rfl
 | succ d ih =>
  intro k w c hk A Q f hf
  obtain ⟨f,rfl⟩:∃ f',f=f' + 1:=⟨f - 1,by lia⟩
  have hkn:k < w.n:=by lia
  obtain ⟨g1,mm,g2,g3,_⟩:=A.ms1 k rfl (by lia)
  have hdi:toR w (.deps k)=some (.list [.id (.task (k + 1))]):=by rw [← g3]; exact Jr g2
  obtain ⟨w₁,e1,A₁,S₁,T₁⟩:=ih (k + 1) w c (by lia) A Q f (by lia)
  have hk1:k < w₁.n:=by rw [S₁.n]; exact hkn
  have Q₁:Qd w₁ (Nz c (k + 1)):=fun j hj hc=>by
   have h:¬(k + 1≤j)∧c j=.acc:=by
    unfold Nz at hc
    (set_option tactic.hygienic true in split at hc)
    ·cases hc
    ·rename_i g; exact ⟨fun z=>g ⟨z,hc⟩,hc⟩
   rw [S₁.q,S₁.sv,T₁ j (by lia)]
   exact Q j (by rw [← S₁.n]; exact hj) h.2
  obtain ⟨w',h1,h2,h3,h4⟩:=Aaw (m:=Bd (Bd (Dc ["task"] [.id (.task k)]) "master" (.id (.master k))) "other" (.id (.task (k + 1)))) A₁ Q₁ hk1 rfl
  rw [Af7] at h2
  have i1:(toA w₁).its (.id (.deps k)) 1=some none:=by
   obtain ⟨_,mm',g2',g3',_⟩:=A₁.ms1 k rfl (by rw [S₁.n]; lia)
   exact B5 (xs:=[.id (.task (k + 1))]) (by rw [← g3']; exact Jr g2')
  have i2:(toA w₁).its (.id (.masters k)) 1=some none:=by
   obtain ⟨g1',_⟩:=A₁.ms1 k rfl (by rw [S₁.n]; lia)
   exact B5 (Md hk1 g1')
  refine ⟨w',?_,h2,S₁.trans h3,fun j hj=>(h4 j (Nat.ne_of_lt hj)).trans (T₁ j (by lia))⟩
  show C0 ["task"] (De (Cr f)) _ _=_
  apply Ch rfl
  unfold De
  apply Ak
  ·apply D4 (Ay (Ac rfl) (D6 hkn rfl))
   apply Fj (B5 (Md hkn g1)) rfl
   ·apply Ak
    ·apply D4 (Ay (Ac rfl) (Je g2))
     apply Fj (B5 hdi) rfl
     ·exact Ak (Bo (Aw (Ae (Ac rfl) Au) e1)) Ar
     exact Eh i1
    exact Ar
   exact Eh i2
  exact h1
noncomputable def tbS:SD:=(Am (Bw (Az (Cr 40) (Af (Ad "task") Ap))) Aq)
noncomputable def Abi:SD:=(Am (sIf T2 (Am (Bb "waiting" (C3 (A1 (Ad "tasking") "tasks") (B3 "task") (Cz (Az B6 (Af (Ad "task") Ap))) (Ad "task") [] 1000)) (Am (Ey (A1 (Ad "master") "dependents") (B3 "task") tbS 1000) (Am (sIf (Bs cNe (C3 (Ad "waiting") (B3 "task") (Gk (Cz (Az B6 (Af (Ad "task") Ap)))) (Ad "task") [] 1000) (Db Ap)) (Am (Bb "is_moved" (An (.bool true))) Aq) Aq) Aq))) Aq) Aq)
noncomputable def H2 (n:Nat) (c:Nat→Cl):List AVal:=((List.range n).filter fun k=>Po (c k)).map fun k=>.id (.task k)
theorem Yx {w:Ws} {nst:Bool} {c:Nat→Cl} (A:Arr w nst c) {m:B1} (hm:m.lookup "tasking" = some (.id .tasking)) :
  C3 (A1 (Ad "tasking") "tasks") (B3 "task") (Cz (Az B6 (Af (Ad "task") Ap))) (Ad "task") [] 1000 m (toA w)=some (.flist (H2 w.n c),toA w):=by
 have hn:=A.n
 apply D8
 ·exact Ay (Ac hm) rfl
 ·exact K3 (n:=w.n) (P:=fun J=>True) (fun j=>B5 (by rw [← A.tn]; rfl)) (fun J J J=>trivial) (fun k hk m J=>Bk (Aw (Ae (Ac Bi) Au) (Ky A.sts hk))) (fun k hk m J J=>Ac Bi) (by omega) trivial
theorem Vm {w:Ws} {nst:Bool} {c c₀:Nat→Cl} {n:Nat} (A:Arr w nst c) (hn:w.n=n) (hc:∀ k,k < n→Po (c k)=false) {m:B1} (hm:m.lookup "waiting" = some (.flist (H2 n c₀))) :
  Bs cNe (C3 (Ad "waiting") (B3 "task") (Gk (Cz (Az B6 (Af (Ad "task") Ap)))) (Ad "task") [] 1000) (Db Ap) m (toA w)=some (!(H2 n c₀).isEmpty,toA w):=by
 subst hn
 have hN:=A.n
 have hl:(H2 w.n c₀).length≤w.n:=by
  unfold H2
  rw [List.length_map]
  exact Nat.le_trans (List.length_filter_le _ _) (by rw [List.length_range]; exact Nat.le_refl _)
 have h:=Hi (v:=.flist (H2 w.n c₀)) (xs:=H2 w.n c₀) (nm := "task") (σ:=toA w) (bt:=Gk (Cz (Az B6 (Af (Ad "task") Ap)))) (el:=Ad "task") (P:=fun J=>True) (b:=fun J=>true) (e:=fun x=>x) (fun k=>rfl) (fun J J J=>trivial)
  (fun x hx m J=>by
   obtain ⟨k,hk,rfl⟩:=List.mem_map.mp hx
   have hk:=List.mem_range.mp (List.mem_filter.mp hk).1
   have e:=Ky A.sts hk
   rw [hc k hk] at e
   exact F9 (Bk (Aw (Ae (Ac Bi) Au) e))) (fun x hx m J J=>Ac Bi) 1000 0 [] (Gg m []) (by omega) (Nat.zero_le _) trivial
 apply A4
 ·apply D8
  ·exact Ac hm
  ·exact h
 ·exact Cj Au (Nat.zero_le _)
 ·rw [Am0]
  rw [List.drop_zero,List.nil_append,List.map_id',List.filter_eq_self.mpr fun J J=>rfl]
theorem Ama {w:Ws} {nst:Bool} {c:Nat→Cl} (A:Arr w nst c) (Q:Qd w c) {m:B1} (hm:m.lookup "master" = some (.id .lib)) {P:B1→Prop} (hP:∀ m x,P m→P (Bd m "task" x)) (hm2:P m) :
  ∃ m' w',Ey (A1 (Ad "master") "dependents") (B3 "task") tbS 1000 m (toA w)=some (.next,m',toA w')∧P m'∧Arr w' nst (Qw c)∧Same w w':=by
 have hN:=A.n
 have hn0:=A.n0
 cases nst with
 | true =>
  obtain ⟨w',e1,A',S',_⟩:=Am9 (w.n - 1) 0 w c (by omega) A Q 40 (by omega)
  have e2:Nz c 0=Qw c:=funext fun j=>by unfold Nz Qw; simp
  rw [e2] at A'
  refine ⟨Bd m "task" (.id (.task 0)),w',?_,hP _ _ hm2,A',S'⟩
  apply D4 (Ay (Ac hm) rfl)
  apply Fj (B5 (w:=w) (i:=.libDeps) (xs:=[.id (.task 0)]) (by rw [← A.lib1 rfl]; rfl)) rfl
  ·exact Ak (Bo (Aw (Ae (Ac Bi) Au) e1)) Ar
  exact Eh (B5 (w:=w') (i:=.libDeps) (xs:=[.id (.task 0)]) (by rw [← A'.lib1 rfl]; rfl))
 | false =>
  obtain ⟨m',σ',e1,⟨w',rfl,A',S',T',hm'⟩⟩:=Jd (v:=.id .libDeps) (xs:=tl w.n) (nm := "task") (body:=tbS) (I:=fun i m σ=>∃ w',σ=toA w'∧Arr w' false (O7 c i)∧Same w w'∧(∀ j,i≤j→w'.T j=w.T j)∧P m)
   (fun k m σ h=>by
    obtain ⟨w',rfl,A',S',_⟩:=h
    exact B5 (by rw [← S'.n,← A'.lib0 rfl]; rfl))
   (fun k x hx m σ h=>by
    obtain ⟨w₁,rfl,A₁,S₁,T₁,hm₁⟩:=h
    have hk:k < w.n:=by
     obtain ⟨h,_⟩:=List.getElem?_eq_some_iff.mp hx
     rw [E1] at h; exact h
    rw [Aax hk] at hx
    cases hx
    have Q₁:Qd w₁ (O7 c k):=fun j hj hc=>by
     have h:¬(j < k)∧c j=.acc:=by
      unfold O7 at hc
      (set_option tactic.hygienic true in split at hc)
      ·cases hc
      ·rename_i g; exact ⟨fun z=>g ⟨z,hc⟩,hc⟩
     rw [S₁.q,S₁.sv,T₁ j (by omega)]
     exact Q j (by rw [← S₁.n]; exact hj) h.2
    obtain ⟨w',e1,A',S',T'⟩:=Apb (f:=39) A₁ Q₁ (by rw [S₁.n]; exact hk)
    rw [Af8] at A'
    exact ⟨Bd m "task" (.id (.task k)),toA w',Ak (Bo (Aw (Ae (Ac Bi) Au) e1)) Ar,w',rfl,A',S₁.trans S',fun j hj=>(T' j (by omega)).trans (T₁ j (by omega)),hP _ _ hm₁⟩)
   1000 0 m (toA w) (by rw [E1]; omega) (Nat.zero_le _) ⟨w,rfl,A.congr fun k hk=>(by unfold O7; simp),Same.refl w,fun _ _=>rfl,hm2⟩
  rw [E1] at A'
  refine ⟨m',w',?_,hm',A'.congr fun k hk=>?_,S'⟩
  ·apply D4 (Ay (Ac hm) rfl)
   exact e1
  ·rw [S'.n] at hk
   unfold Qw O7
   simp [hk]
theorem Abl (c:Nat→Cl) (k:Nat):Po (Qw c k)=false:=by
 unfold Qw
 (set_option tactic.hygienic true in split)
 ·rfl
 ·rename_i h
  cases hc:c k <;> first | rfl | exact absurd hc h
theorem Aj9 {w:Ws} {nst:Bool} {c:Nat→Cl} (A:Arr w nst c) (Q:Qd w c) (h1:Jk w.n nst c=false) (h2:Gs w.n nst c=true) (hacc:∃ k,k < w.n∧c k=.acc) {m:B1} (hm:m.lookup "tasking" = some (.id .tasking)) :
  ∃ m' w',Abi (Bd m "master" (.id .lib)) (toA w)=some (.next,m',toA w')∧m'.lookup "is_moved" = some (.bool true)∧m'.lookup "tasking" = some (.id .tasking)∧Arr w' nst (Qw c)∧Same w w':=by
 have hc:=Abn A (m:=Bd m "master" (.id .lib)) Bi
 rw [h1,h2] at hc
 have e1:=Yx A (m:=Bd m "master" (.id .lib)) ((Cq (by decide)).trans hm)
 obtain ⟨m',w',e2,⟨p1,p2⟩,A',S'⟩:=Ama A Q (m:=Bd (Bd m "master" (.id .lib)) "waiting" (.flist (H2 w.n c))) ((Cq (by decide)).trans Bi) (P:=fun m=>m.lookup "waiting" = some (.flist (H2 w.n c))∧m.lookup "tasking" = some (.id .tasking))
  (fun m x h=>⟨(Cq (by decide)).trans h.1,(Cq (by decide)).trans h.2⟩) ⟨Bi,(Cq (by decide)).trans ((Cq (by decide)).trans hm)⟩
 have e3:=Vm A' S'.n (fun k J=>Abl c k) p1
 have hne:(H2 w.n c).isEmpty=false:=by
  obtain ⟨k,hk,hck⟩:=hacc
  cases h:H2 w.n c with
  | nil =>
   have:AVal.id (.task k)∈H2 w.n c:=List.mem_map.mpr ⟨k,List.mem_filter.mpr ⟨List.mem_range.mpr hk,by rw [hck]; rfl⟩,rfl⟩
   rw [h] at this; cases this
  | cons _ _=>rfl
 rw [hne] at e3
 refine ⟨Bd m' "is_moved" (.bool true),w',?_,Bi,(Cq (by decide)).trans p2,A',S'⟩
 unfold Abi
 apply Ak
 ·apply Cw hc
  apply Ak (A7 e1)
  apply Ak e2
  apply Ak
  ·apply Cw e3
   exact Ak (A7 Ah) Ar
  exact Ar
 exact Ar
theorem Aka {w:Ws} {c:Nat→Cl} (A:Arr w true c) (hn:∀ k,k < w.n→Po (c k)=false) {k:Nat} (hk:k + 1 < w.n) {m:B1} (hm:m.lookup "tasking" = some (.id .tasking)) (hm2:m.lookup "is_moved" = some (.bool true)) :
  ∃ m' w',Abi (Bd m "master" (.id (.master k))) (toA w)=some (.next,m',toA w')∧m'.lookup "is_moved" = some (.bool true)∧m'.lookup "tasking" = some (.id .tasking)∧Arr w' true c∧Same w w':=by
 have hc:=Abo A hk (m:=Bd m "master" (.id (.master k))) Bi
 have hN:=A.n
 cases hb:(!D3 (c (k + 1)) && qf c (w.n - 2 - k) (k + 1)) with
 | false =>
  rw [hb] at hc
  refine ⟨Bd m "master" (.id (.master k)),w,?_,(Cq (by decide)).trans hm2,(Cq (by decide)).trans hm,A,Same.refl w⟩
  exact Ak (Br hc Ar) Ar
 | true =>
  rw [hb] at hc
  have Q:Qd w c:=fun j hj h=>by have:=hn j hj; rw [h] at this; cases this
  obtain ⟨g1,mm,g2,g3,_⟩:=A.ms1 k rfl hk
  have hdi:toR w (.deps k)=some (.list [.id (.task (k + 1))]):=by rw [← g3]; exact Jr g2
  have e1:=Yx A (m:=Bd m "master" (.id (.master k))) ((Cq (by decide)).trans hm)
  have hw:H2 w.n c=[]:=by
   unfold H2
   rw [List.filter_eq_nil_iff.mpr fun j hj=>by rw [hn j (List.mem_range.mp hj)]; simp]; rfl
  obtain ⟨w',e2,A₀,S',_⟩:=Am9 (w.n - 2 - k) (k + 1) w c (by omega) A Q 40 (by omega)
  have A':Arr w' true c:=A₀.congr fun j hj=>by
   rw [S'.n] at hj
   unfold Nz
   (set_option tactic.hygienic true in split)
   ·rename_i g; have:=hn j hj; rw [g.2] at this; cases this
   ·rfl
  obtain ⟨g1',mm',g2',g3',_⟩:=A'.ms1 k rfl (by rw [S'.n]; exact hk)
  have hm3:(Bd (Bd (Bd m "master" (.id (.master k))) "waiting" (.flist (H2 w.n c))) "task" (.id (.task (k + 1)))).lookup "waiting" = some (.flist (H2 w.n c)):=(Cq (by decide)).trans Bi
  have e3:=Vm A' S'.n hn hm3
  rw [hw] at e3
  rw [hw] at e1
  refine ⟨Bd (Bd (Bd m "master" (.id (.master k))) "waiting" (.flist [])) "task" (.id (.task (k + 1))),w',?_,(Cq (by decide)).trans ((Cq (by decide)).trans ((Cq (by decide)).trans hm2)),(Cq (by decide)).trans ((Cq (by decide)).trans ((Cq (by decide)).trans hm)),A',S'⟩
  unfold Abi
  apply Ak
  ·apply Cw hc
   apply Ak (A7 e1)
   apply Ak
   ·apply D4 (Ay (Ac ((Cq (by decide)).trans Bi)) (Je g2))
    apply Fj (B5 hdi) rfl
    ·exact Ak (Bo (Aw (Ae (Ac Bi) Au) e2)) Ar
    exact Eh (B5 (xs:=[.id (.task (k + 1))]) (by rw [← g3']; exact Jr g2'))
   apply Ak
   ·apply Br e3
    exact Ar
   exact Ar
  exact Ar
theorem Ac1 {w:Ws} {nst:Bool} {c:Nat→Cl} (A:Arr w nst c) (Q:Qd w c) (h1:Jk w.n nst c=false) (h2:Gs w.n nst c=true) (hacc:∃ k,k < w.n∧c k=.acc) :
  ∃ w',C2 [.id .tasking] (toA w)=some (.bool true,toA w')∧Arr w' nst (Qw c)∧Same w w':=by
 have A₀:=A.newG (.list (.id .lib :: em w.n nst c w.n))
 have S₀:=Same.newG w (.list (.id .lib :: em w.n nst c w.n))
 have hN:=A.n
 obtain ⟨m',σ',e1,hI⟩:=Jd (v:=.id (.tmp w.gn)) (xs:=.id .lib :: em w.n nst c w.n) (nm := "master") (body:=Abi)
  (I:=fun i m σ=>m.lookup "tasking" = some (.id .tasking)∧∃ w',σ=toA w'∧Same (w.newG (.list (.id .lib :: em w.n nst c w.n))) w'∧match i with
   | 0=>w'=w.newG (.list (.id .lib :: em w.n nst c w.n))
   | _ + 1=>m.lookup "is_moved" = some (.bool true)∧Arr w' nst (Qw c))
  (fun k m σ h=>by
   obtain ⟨_,w',rfl,S',_⟩:=h
   exact B5 ((S'.keepG w.gn (Nat.lt_succ_self _)).trans (Al _ _ _)))
  (fun k x hx m σ h=>by
   obtain ⟨hm,w₁,rfl,S₁,hk⟩:=h
   cases k with
   | zero =>
    cases hx
    have hk:w₁=_:=hk
    subst hk
    obtain ⟨m',w',e,i1,i2,A',S'⟩:=Aj9 A₀ Q h1 h2 hacc hm
    exact ⟨m',toA w',e,i2,w',rfl,S',i1,A'⟩
   | succ k =>
    obtain ⟨i1,A₁⟩:=hk
    have hx:x∈em w.n nst c w.n:=List.mem_of_getElem? (i:=k) hx
    obtain ⟨j,hj,rfl⟩:=List.mem_map.mp hx
    obtain ⟨_,hj2⟩:=List.mem_filter.mp hj
    simp only [emB,Bool.and_eq_true,decide_eq_true_eq] at hj2
    obtain ⟨⟨rfl,hj3⟩,hj4⟩:=hj2
    obtain ⟨m',w',e,i1,i2,A',S'⟩:=Aka A₁ (fun k J=>Abl c k) (k:=j) (by rw [S₁.n]; exact hj3) hm i1
    exact ⟨m',toA w',e,i2,w',rfl,S₁.trans S',i1,A'⟩)
  1000 0 (Bd (Dc ["tasking"] [.id .tasking]) "is_moved" (.bool false)) (toA (w.newG (.list (.id .lib :: em w.n nst c w.n)))) (by have:=Adh w.n nst c w.n; simp only [List.length_cons]; omega) (Nat.zero_le _) ⟨rfl,_,rfl,Same.refl _,rfl⟩
 obtain ⟨_,w',rfl,S',hk⟩:=hI
 rw [List.length_cons] at hk
 obtain ⟨i1,A'⟩:=hk
 refine ⟨w',?_,A',S₀.trans S'⟩
 apply Bv rfl
 unfold Es
 apply Ak
 ·exact A7 Ah
 apply Ak
 ·apply D4
  ·exact Aw (Ae (Ac rfl) Au) (Afs A)
  ·exact e1
 exact A8 (B7 (Ac i1))
section
theorem Arr.settled {w:Ws} {nst:Bool} {c:Nat→Cl} (A:Arr w nst c) (s:Int):Arr (w.s_settled s) nst c:=⟨A.tn,A.n0,A.n,A.sts,A.libE,A.lib0,A.lib1,A.ms0,A.ms1,A.fresh⟩
theorem Same.settled (w:Ws) (s:Int):Same w (w.s_settled s):=⟨w.T,w.M,w.G,w.gn,s,rfl,Nat.le_refl _,fun J J=>rfl⟩
theorem Same.endT (w:Ws) (Q:Nat→Bool) (i:Nat):Same w (Mine.endT w Q i):=⟨_,w.M,w.G,w.gn,w.settled,rfl,Nat.le_refl _,fun J J=>rfl⟩
theorem Arr.endT {w:Ws} {nst:Bool} {c:Nat→Cl} {Q:Nat→Bool} (A:Arr w nst c) (hQ:EndQ w c Q):Arr (Mine.endT w Q w.n) nst (Zk c Q w.n) :=
 ⟨A.tn,A.n0,A.n,Abq A.sts w.n,A.libE,A.lib0,A.lib1,A.ms0,fun k h1 h2=>by
  obtain ⟨g1,mm,g2,g3,g4⟩:=A.ms1 k h1 h2
  refine ⟨g1,mm,g2,g3,?_⟩
  rw [g4]
  unfold Zk
  (set_option tactic.hygienic true in split)
  ·rename_i h
   cases hc:Ew (c k) with
   | false=>rw [hQ.no k h.1 hc] at h; cases h.2
   | true=>cases hk:c k <;> rw [hk] at hc <;> first | rfl | cases hc
  ·rfl,A.fresh⟩
noncomputable def cwS:B:=(bOr (Cz (Az Fc (Af (Ad "tasking") Ap))) (bOr (Cz (Az Ha (Af (Ad "tasking") Ap))) (bOr (Cz (Az C2 (Af (Ad "tasking") Ap))) (Cp false))))
noncomputable def swS:SD:=(Am (R6 Pb (Ad "tasking") "settled" (An (.int 1))) Aq)
section
variable {w:Ws} {nst:Bool} {c:Nat→Cl} {m:B1} (A:Arr w nst c) (hm:m.lookup "tasking" = some (.id .tasking))
include A hm
theorem S8 {Q:Nat→Bool} (hQ:EndQ w c Q) (h:(List.range w.n).any Q=true):cwS m (toA w)=some (true,toA (endT w Q w.n)):=by
 have hn:=A.n
 apply Ku
 ·exact Bk (Aw (Ae (Ac hm) Au) (Qi A.tn (by lia)))
 ·apply Dj rfl
  apply Ku
  ·exact Bk (Aw (Ae (Ac hm) Au) (Ob A.sts A.tn (by lia) hQ))
  ·exact Df h rfl
theorem S9 {Q:Nat→Bool} (hQ:EndQ w c Q) (h:∀ k,k < w.n→Q k=false) {b:Bool} {σ:AS} (ht:C2 [.id .tasking] (toA w)=some (.bool b,σ)):cwS m (toA w)=some (b,σ):=by
 have hn:=A.n
 have e:=Ob A.sts A.tn (by lia) hQ
 rw [Agc h] at e
 have ha:(List.range w.n).any Q=false:=by
  rw [List.any_eq_false]
  intro k hk
  rw [h k (List.mem_range.mp hk)]; simp
 apply Ku
 ·exact Bk (Aw (Ae (Ac hm) Au) (Qi A.tn (by lia)))
 ·apply Dj rfl
  apply Ku
  ·exact Bk (Aw (Ae (Ac hm) Au) e)
  ·apply Dj ha
   apply Ku
   ·exact Bk (Aw (Ae (Ac hm) Au) ht)
   ·cases b <;> rfl
end
theorem Qf {w:Ws} {m:B1} (hm:m.lookup "tasking" = some (.id .tasking)):swS m (toA w)=some (.next,m,toA (w.s_settled (w.settled + 1))) :=
 Ak (Aas (Ac hm) rfl Ah rfl Ad2) Ar
theorem Lo {w:Ws} {r:AS} {m':B1} (h:D5 cwS swS 1000 (Dc ["tasking"] [.id .tasking]) (toA w)=some (.next,m',r)):Dq [.id .tasking] (toA w)=some (.none,r):=by
 apply Ch rfl
 unfold I5
 exact Ak h Ar
theorem Aco {c:Nat→Cl}:∀ d j,(∃ k,j≤k∧k≤j + d∧c k=.act∧∀ i,j≤i→i < k→D3 (c i)=false)→qf c d j=false:=by
 intro d
 induction d with
 | zero =>
  rintro j ⟨k,h1,h2,h3,h4⟩
  obtain rfl:k=j:=by lia
  unfold qf; rw [h3]; rfl
 | succ d ih =>
  rintro j ⟨k,h1,h2,h3,h4⟩
  unfold qf
  by_cases hk:k=j
  ·subst hk; rw [h3]; rfl
  ·rw [h4 j (Nat.le_refl _) (by lia),ih (j + 1) ⟨k,by lia,by lia,h3,fun i a b=>h4 i (by lia) b⟩]; simp
theorem Alr {c:Nat→Cl}:∀ d j,(∀ k,j≤k→k≤j + d→Zm (c k)=true)→qf c d j=true:=by
 intro d
 induction d with
 | zero=>intro j h; unfold qf; rw [h j (Nat.le_refl _) (Nat.le_refl _)]; simp
 | succ d ih=>intro j h; unfold qf; rw [h j (Nat.le_refl _) (by lia),ih (j + 1) fun k a b=>h k (by lia) (by lia)]; simp
theorem Yv {w:Ws} {nst:Bool} {c:Nat→Cl} (A:Arr w nst c) (hact:∃ k,k < w.n∧c k=.act) (hst:∀ k,k < w.n→0 < k→c k=.act∨c k=.acc) (h0:nst=true→c 0≠.done) :
  C2 [.id .tasking] (toA w)=some (.bool false,toA (w.newG (.list (.id .lib :: em w.n nst c w.n)))):=by
 obtain ⟨k,hk,hck⟩:=hact
 have nd:∀ i,i < w.n→nst=true→D3 (c i)=false:=fun i hi hn=>by
  by_cases h:i=0
  ·subst h; have:=h0 hn; cases hc:c 0 <;> first | rfl | exact absurd hc this
  ·rcases hst i hi (by lia) with h | h <;> rw [h] <;> rfl
 refine Qk A (.inr ?_) fun j hn hj he=>.inr ?_
 ·cases nst with
  | false =>
   show (List.range w.n).all (fun k=>Zm (c k))=false
   rw [List.all_eq_false]
   exact ⟨k,List.mem_range.mpr hk,by rw [hck]; exact Bool.false_ne_true⟩
  | true=>exact Aco _ _ ⟨k,Nat.zero_le _,by lia,hck,fun i J h=>nd i (by lia) rfl⟩
 ·have hj0:j=0:=by
   by_cases h:j=0
   ·exact h
   ·rcases hst j (by lia) (by lia) with h' | h' <;> rw [h'] at he <;> cases he
  subst hj0
  have hk0:k≠0:=fun z=>by subst z; rw [hck] at he; cases he
  exact Aco _ _ ⟨k,by lia,by lia,hck,fun i J h=>nd i (by lia) hn⟩
noncomputable def fin0 (nst:Bool) (c:Nat→Cl):Nat→Cl:=fun k=>if nst=false∧c k=.comp then .done else c k
theorem Ad8 {w:Ws} {nst:Bool} {c:Nat→Cl} (A:Arr w nst c) (hact:∃ k,k < w.n∧c k=.act) (hst:∀ k,k < w.n→0 < k→c k=.act∨c k=.acc) (h0:nst=true→c 0≠.done) :
  ∃ w',Dq [.id .tasking] (toA w)=some (.none,toA w')∧Arr w' nst (fin0 nst c)∧Same w w'∧w'.M=w.M∧∀ k,(Ew (c k)=false→w'.T k=w.T k)∧(w'.T k=w.T k∨w'.T k=(w.T k).s_st "done"):=by
 by_cases hc0:c 0=.comp∧nst=false
 ·obtain ⟨hc0,rfl⟩:=hc0
  have hQ:EndQ w c (fun k=>decide (k=0)):=⟨fun k hk h=>by
   have:k=0:=by
    by_cases h':k=0
    ·exact h'
    ·rcases hst k hk (by lia) with g | g <;> rw [g] at h <;> cases h
   subst this
   exact .inl ⟨A.ms0 0 hk (.inl rfl),rfl⟩,fun k hk h=>by
   have:k≠0:=fun z=>by subst z; rw [hc0] at h; cases h
   simp [this]⟩
  have A₁:=A.endT hQ
  have hce:∀ k,k < w.n→fin0 false c k=Zk c (fun k=>decide (k=0)) w.n k:=fun k hk=>by
   unfold fin0 Zk
   by_cases h:k=0
   ·subst h; simp [hc0,hk]
   ·have:c k≠.comp:=by rcases hst k hk (by lia) with g | g <;> rw [g] <;> decide
    simp [h,this]
  have A₂:Arr (endT w (fun k=>decide (k=0)) w.n) false (fin0 false c):=A₁.congr hce
  have A₃:=A₂.settled (w.settled + 1)
  have hact':∃ k,k < w.n∧fin0 false c k=.act:=by
   obtain ⟨k,hk,h⟩:=hact
   exact ⟨k,hk,by unfold fin0; rw [h]; rfl⟩
  have hst':∀ k,k < w.n→0 < k→fin0 false c k=.act∨fin0 false c k=.acc:=fun k hk h=>by
   unfold fin0
   rcases hst k hk h with g | g <;> rw [g]
   ·exact .inl rfl
   ·exact .inr rfl
  have ht:=Yv A₃ hact' hst' (fun h=>by cases h)
  have hQ':EndQ ((endT w (fun k=>decide (k=0)) w.n).s_settled (w.settled + 1)) (fin0 false c) (fun _=>false):=⟨fun k hk h=>(by
   exfalso
   unfold fin0 at h
   cases hc:c k <;> rw [hc] at h <;> cases h),fun _ _ _=>rfl⟩
  refine ⟨_,Lo (Qa (S8 A rfl hQ ?_) (Qf rfl) (Mb (S9 A₃ rfl hQ' (fun _ _=>rfl) ht))),A₃.newG _,((Same.endT w _ _).trans (Same.settled _ _)).trans (Same.newG _ _),rfl,fun k=>⟨fun hk=>?_,?_⟩⟩
  ·rw [List.any_eq_true]
   exact ⟨0,List.mem_range.mpr A.n0,rfl⟩
  rotate_left
  ·show (if k < w.n∧decide (k=0)=true then (w.T k).s_st "done" else w.T k)=w.T k∨(if k < w.n∧decide (k=0)=true then (w.T k).s_st "done" else w.T k)=_
   (set_option tactic.hygienic true in split)
   ·exact .inr rfl
   ·exact .inl rfl
  ·show (if k < w.n∧decide (k=0)=true then _ else w.T k)=w.T k
   refine if_neg fun h=>?_
   have:k=0:=by simpa using h.2
   subst this; rw [hc0] at hk; cases hk
 ·have hQ:EndQ w c (fun _=>false):=⟨fun k hk h=>by
   have hk0:k=0:=by
    by_cases h':k=0
    ·exact h'
    ·rcases hst k hk (by lia) with g | g <;> rw [g] at h <;> cases h
   subst hk0
   have hcc:c 0=.comp:=by cases hc:c 0 <;> rw [hc] at h <;> first | rfl | cases h
   have hnst:nst=true:=by cases nst with
    | true=>rfl
    | false=>exact absurd ⟨hcc,rfl⟩ hc0
   subst hnst
   obtain ⟨k,hk',hck⟩:=hact
   have hk1:k≠0:=fun z=>by subst z; rw [hcc] at hck; cases hck
   obtain ⟨g1,mm,g2,g3,_⟩:=A.ms1 0 rfl (by lia)
   refine .inr ⟨g1,by lia,mm,g2,g3,?_⟩
   rcases hst 1 (by lia) (by lia) with g | g <;> rw [g] <;> rfl,fun _ _ _=>rfl⟩
  have ht:=Yv A hact hst h0
  have hfc:∀ k,k < w.n→fin0 nst c k=c k:=fun k hk=>by
   unfold fin0
   (set_option tactic.hygienic true in split)
   ·rename_i h
    have:k=0:=by
     by_cases h':k=0
     ·exact h'
     ·rcases hst k hk (by lia) with g | g <;> rw [g] at h <;> cases h.2
    subst this
    exact absurd ⟨h.2,h.1⟩ hc0
   ·rfl
  exact ⟨_,Lo (Mb (S9 A rfl hQ (fun _ _=>rfl) ht)),(A.newG _).congr hfc,Same.newG _ _,rfl,fun _=>⟨fun _=>rfl,.inl rfl⟩⟩
theorem Aef {w:Ws} {nst:Bool} {c:Nat→Cl} (A:Arr w nst c) (h:∀ k,k < w.n→c k=.done):C2 [.id .tasking] (toA w)=some (.bool false,toA (w.newG (.list (.id .lib :: em w.n nst c w.n)))):=by
 refine Qk A (.inl ?_) fun j hn hj he=>.inl ?_
 ·cases nst with
  | false =>
   show (List.range w.n).all (fun k=>D3 (c k))=true
   rw [List.all_eq_true]
   intro k hk
   rw [h k (List.mem_range.mp hk)]; rfl
  | true=>show D3 (c 0)=true; rw [h 0 A.n0]; rfl
 ·rw [h _ hj]; rfl
theorem Vn {w:Ws} {nst:Bool} {c:Nat→Cl} {m:B1} (A:Arr w nst c) (hm:m.lookup "tasking" = some (.id .tasking)) (h:∀ k,k < w.n→c k=.done) {f:Nat} :
  ∃ w',D5 cwS swS (f + 1) m (toA w)=some (.next,m,toA w')∧Arr w' nst (fun J=>.done)∧Same w w':=by
 have hQ:EndQ w c (fun J=>false):=⟨fun k hk g=>(by rw [h k hk] at g; cases g),fun J J J=>rfl⟩
 exact ⟨_,Mb (S9 A hm hQ (fun J J=>rfl) (Aef A h)),(A.newG _).congr fun k hk=>(h k hk).symm,Same.newG _ _⟩
theorem Acw {m:B1} (hm:m.lookup "tasking" = some (.id .tasking)):∀ j (w:Ws),j≤w.n→Arr w true (fun k=>if k < j then .comp else .done)→∀ f,j < f →
  ∃ w',D5 cwS swS f m (toA w)=some (.next,m,toA w')∧Arr w' true (fun J=>.done)∧Same w w':=by
 intro j
 induction j with
 | zero =>
  intro w hj A f hf
  obtain ⟨f,rfl⟩:∃ f',f=f' + 1:=⟨f - 1,by lia⟩
  exact Vn A hm fun k J=>if_neg (Nat.not_lt_zero _)
 | succ j ih =>
  intro w hj A f hf
  obtain ⟨f,rfl⟩:∃ f',f=f' + 1:=⟨f - 1,by lia⟩
  have hQ:EndQ w (fun k=>if k < j + 1 then .comp else .done) (fun k=>decide (k=j)):=⟨fun k hk h=>by
   have hkj:k < j + 1:=by
    by_cases g:k < j + 1
    ·exact g
    ·rw [if_neg g] at h; cases h
   by_cases hl:k + 1=w.n
   ·exact .inl ⟨A.ms0 k hk (.inr hl),by simp; lia⟩
   ·obtain ⟨g1,mm,g2,g3,_⟩:=A.ms1 k rfl (by lia)
    refine .inr ⟨g1,by lia,mm,g2,g3,?_⟩
    by_cases g:k + 1 < j + 1
    ·rw [if_pos g,decide_eq_false (show ¬k=j by lia)]; rfl
    ·rw [if_neg g,decide_eq_true (show k=j by lia)]; rfl,fun k hk h=>by
   have:¬(k < j + 1):=fun g=>by rw [if_pos g] at h; cases h
   simp; lia⟩
  have A₁:=((A.endT hQ).settled (w.settled + 1)).congr (c':=fun k=>if k < j then .comp else .done) fun k hk=>by
   unfold Zk
   by_cases g:k=j
   ·subst g; simp [show k < w.n from hk]
   ·simp only [decide_eq_true_eq,g,and_false,if_false]
    have:k < j + 1 ↔ k < j:=by lia
    simp only [this]
  obtain ⟨w',e,A',S'⟩:=ih ((endT w (fun k=>decide (k=j)) w.n).s_settled (w.settled + 1)) (show j≤w.n by lia) A₁ f (by lia)
  exact ⟨w',Qa (S8 A hm hQ (by rw [List.any_eq_true]; exact ⟨j,List.mem_range.mpr (by lia),by simp⟩)) (Qf hm) e,A',((Same.endT w _ _).trans (Same.settled _ _)).trans S'⟩
theorem Aeh {m:B1} (hm:m.lookup "tasking" = some (.id .tasking)) {w:Ws} {nst:Bool} {c:Nat→Cl} (A:Arr w nst c) (h:∀ k,k < w.n→c k=.comp∨(nst=false∧c k=.done)) (hc:∃ k,k < w.n∧c k=.comp) {f:Nat} (hf:w.n + 2 < f) :
  ∃ w',D5 cwS swS f m (toA w)=some (.next,m,toA w')∧Arr w' nst (fun J=>.done)∧Same w w':=by
 obtain ⟨f,rfl⟩:∃ f',f=f' + 1:=⟨f - 1,by lia⟩
 cases nst with
 | true =>
  refine Acw hm w.n w (Nat.le_refl _) (A.congr fun k hk=>?_) _ (by lia)
  rw [if_pos hk]
  rcases h k hk with g | ⟨g,_⟩
  ·exact g.symm
  ·cases g
 | false =>
  obtain ⟨f,rfl⟩:∃ f',f=f' + 1:=⟨f - 1,by lia⟩
  have hQ:EndQ w c (fun k=>Ew (c k)):=⟨fun k hk g=>.inl ⟨A.ms0 k hk (.inl rfl),g⟩,fun k hk g=>g⟩
  have A₁:=((A.endT hQ).settled (w.settled + 1))
  obtain ⟨w',e,A',S'⟩:=Vn (f:=f) (m:=m) A₁ hm fun k hk=>by
   unfold Zk
   rcases h k hk with g | ⟨_,g⟩
   ·simp [show k < w.n from hk,Ew,g]
   ·rw [g]; simp
  exact ⟨w',Qa (S8 A hm hQ (by rw [List.any_eq_true]; obtain ⟨k,hk,g⟩:=hc; exact ⟨k,List.mem_range.mpr hk,by rw [g]; rfl⟩)) (Qf hm) e,A',((Same.endT w _ _).trans (Same.settled _ _)).trans S'⟩
theorem Yy {m:B1} (hm:m.lookup "tasking" = some (.id .tasking)) {w:Ws} {nst:Bool} {c:Nat→Cl} (A:Arr w nst c) (Q:Qd w c) (hn:1 < w.n) (h0:(nst=true∧c 0=.comp)∨(nst=false∧c 0=.done)) (hst:∀ k,k < w.n→0 < k→c k=.acc) {f:Nat} (hf:w.n + 3 < f) :
  ∃ w',D5 cwS swS f m (toA w)=some (.next,m,toA w')∧Arr w' nst (fun J=>.done)∧Same w w':=by
 obtain ⟨f,rfl⟩:∃ f',f=f' + 1:=⟨f - 1,by lia⟩
 have hgood:∀ k,k < w.n→Zm (c k)=true:=fun k hk=>by
  by_cases h:k=0
  ·subst h; rcases h0 with ⟨_,g⟩ | ⟨_,g⟩ <;> rw [g] <;> rfl
  ·rw [hst k hk (by lia)]; rfl
 have e1:Jk w.n nst c=false:=by
  rcases h0 with ⟨rfl,g⟩ | ⟨rfl,g⟩
  ·show D3 (c 0)=false; rw [g]; rfl
  ·show (List.range w.n).all (fun k=>D3 (c k))=false
   rw [List.all_eq_false]
   exact ⟨1,List.mem_range.mpr hn,by rw [hst 1 hn (by lia)]; exact Bool.false_ne_true⟩
 have e2:Gs w.n nst c=true:=by
  cases nst with
  | false =>
   show (List.range w.n).all (fun k=>Zm (c k))=true
   rw [List.all_eq_true]
   intro k hk
   exact hgood k (List.mem_range.mp hk)
  | true=>exact Alr _ _ fun k J hk=>hgood k (by lia)
 obtain ⟨w₁,t1,A₁,S₁⟩:=Ac1 A Q e1 e2 ⟨1,hn,hst 1 hn (by lia)⟩
 have hQ:EndQ w c (fun J=>false):=⟨fun k hk h=>(by
  have hk0:k=0:=by
   by_cases h':k=0
   ·exact h'
   ·rw [hst k hk (by lia)] at h; cases h
  subst hk0
  rcases h0 with ⟨rfl,g⟩ | ⟨rfl,g⟩
  ·obtain ⟨g1,mm,g2,g3,_⟩:=A.ms1 0 rfl (by lia)
   exact .inr ⟨g1,by lia,mm,g2,g3,by rw [hst 1 hn (by lia)]; rfl⟩
  ·rw [g] at h; cases h),fun J J J=>rfl⟩
 have A₂:=A₁.settled (w₁.settled + 1)
 have hcl:∀ k,k < w.n→0 < k→Qw c k=.comp:=fun k hk h=>by unfold Qw; rw [hst k hk h]; rfl
 obtain ⟨w',e,A',S'⟩:=Aeh hm A₂ (fun k hk=>by
  have hk:k < w.n:=by rw [← S₁.n]; exact hk
  by_cases h:k=0
  ·subst h
   rcases h0 with ⟨rfl,g⟩ | ⟨rfl,g⟩
   ·left; unfold Qw; rw [g]; rfl
   ·right; refine ⟨rfl,?_⟩; unfold Qw; rw [g]; rfl
  ·left; exact hcl k hk (by lia)) ⟨1,by show 1 < w₁.n; rw [S₁.n]; exact hn,hcl 1 hn (by lia)⟩ (f:=f) (by show w₁.n + 2 < f; rw [S₁.n]; lia)
 exact ⟨w',Qa (S9 A hm hQ (fun J J=>rfl) t1) (Qf hm) e,A',(S₁.trans (Same.settled _ _)).trans S'⟩
theorem Ad9 {w:Ws} {nst:Bool} {c:Nat→Cl} (A:Arr w nst c) (Q:Qd w c) (hn:1 < w.n) (h0:c 0=.comp∨(nst=false∧c 0=.done)) (hst:∀ k,k < w.n→0 < k→c k=.acc) :
  ∃ w',Dq [.id .tasking] (toA w)=some (.none,toA w')∧Arr w' nst (fun J=>.done)∧Same w w':=by
 have hN:=A.n
 by_cases hc0:c 0=.comp∧nst=false
 ·obtain ⟨hc0,rfl⟩:=hc0
  have hQ:EndQ w c (fun k=>decide (k=0)):=⟨fun k hk h=>by
   have:k=0:=by
    by_cases h':k=0
    ·exact h'
    ·rw [hst k hk (by lia)] at h; cases h
   subst this
   exact .inl ⟨A.ms0 0 hk (.inl rfl),rfl⟩,fun k hk h=>by
   have:k≠0:=fun z=>by subst z; rw [hc0] at h; cases h
   simp [this]⟩
  have A₁:=((A.endT hQ).settled (w.settled + 1)).congr (c':=fun k=>if k=0 then .done else c k) fun k hk=>by
   unfold Zk
   by_cases h:k=0
   ·subst h; simp [A.n0]
   ·simp [h]
  have Q₁:Qd ((endT w (fun k=>decide (k=0)) w.n).s_settled (w.settled + 1)) (fun k=>if k=0 then .done else c k):=fun k hk h=>by
   have hk0:k≠0:=fun z=>by subst z; cases h
   have h:(if k=0 then Cl.done else c k)=.acc:=h
   rw [if_neg hk0] at h
   obtain ⟨q1,q2,q3⟩:=Q k hk h
   refine ⟨q1,q2,?_⟩
   show (if k < w.n∧decide (k=0)=true then _ else w.T k).act=_
   rw [if_neg fun g=>hk0 (by simpa using g.2)]
   exact q3
  obtain ⟨w',e,A',S'⟩:=Yy (m:=Dc ["tasking"] [.id .tasking]) rfl A₁ Q₁ hn (.inr ⟨rfl,rfl⟩) (fun k hk h=>by rw [if_neg (by lia)]; exact hst k hk h) (f:=999) (by show w.n + 3 < 999; lia)
  exact ⟨w',Lo (Qa (S8 A rfl hQ (by rw [List.any_eq_true]; exact ⟨0,List.mem_range.mpr A.n0,rfl⟩)) (Qf rfl) e),A',((Same.endT w _ _).trans (Same.settled _ _)).trans S'⟩
 ·obtain ⟨w',e,A',S'⟩:=Yy (m:=Dc ["tasking"] [.id .tasking]) rfl A Q hn (by
   rcases h0 with g | ⟨g1,g2⟩
   ·left; refine ⟨?_,g⟩; cases nst with
    | true=>rfl
    | false=>exact absurd ⟨g,rfl⟩ hc0
   ·exact .inr ⟨g1,g2⟩) hst (f:=1000) (by lia)
  exact ⟨w',Lo e,A',S'⟩
end
section
section
variable {w:Ws} (htn:w.tn=w.n) (hn:w.n < 40)
include htn hn
theorem Aek (hw:∀ k,k < w.n→(w.T k).st = "calling" → (w.T k).wake=.none):K7 [.id .tasking] (toA w)=some (.bool false,toA w):=by
 have h:=K3 (w:=w) (v:=.id .tasksL) (nm := "task") (n:=w.n) (N:=1000) (m:=Gg (Dc ["tasking"] [.id .tasking]) ["tasking"]) (P:=fun m=>m.lookup "tasking" = some (.id .tasking)) (b:=fun J=>false) (e:=fun k=>.id (.task k)) (el:=Ad "task")
  (bt:=Dg (Bs cEq (A1 (Ad "task") "state") (An (.str "calling"))) (Dg (Cz (Az Ki (Af (A1 (Ad "tasking") "clock") (Af (A1 (Ad "task") "wake") Ap)))) (Cp true)))
  (fun j=>B5 (by rw [← htn]; rfl)) (fun m x h=>(Cq (by decide)).trans h) (fun k hk m hm=>by
   apply B2
   ·exact A4 (Ay (Ac Bi) (Dw hk rfl)) Ah Yl
   ·by_cases hs:(w.T k).st = "calling"
    ·rw [decide_eq_true hs]
     apply Df rfl
     apply B2
     ·apply Bk
      apply Aw
      ·exact Ae (Ay (Ac ((Cq (by decide)).trans hm)) rfl) (Ae (Ay (Ac Bi) ((T4 hk rfl).trans (congrArg some (hw k hk hs)))) Au)
      ·apply Bv rfl
       unfold Qc
       apply A8
       apply B7
       apply Oq
       ·exact Gv (Ac rfl) Ah rfl
       ·exact rfl
       ·exact Dj rfl rfl
     ·exact Dj rfl rfl
    ·rw [decide_eq_false hs]
     exact Dj rfl rfl) (fun k hk m hm h=>by cases h) (by lia) rfl
 rw [List.filter_eq_nil_iff.mpr (by intro a _; simp)] at h
 apply Bv rfl
 unfold Os
 apply Ak
 ·apply A7
  apply D8
  ·exact Ay (Ac rfl) rfl
  ·exact h
 apply Ak
 ·apply D4 (Ac rfl)
  exact Eh rfl
 exact A8 (B7 (Gv (Ac rfl) (Cj Au (Nat.zero_le _)) rfl))
theorem Ti:G9 [.id .tasking] (toA w)=some (.flist (((List.range w.n).filter fun k=>decide ((w.T k).st = "ready")).map fun k=>.id (.task k)),toA w):=by
 apply Bv rfl
 unfold J7
 apply A8
 apply B7
 apply D8
 ·exact Ay (Ac rfl) rfl
 ·exact K3 (n:=w.n) (P:=fun J=>True) (fun j=>B5 (by rw [← htn]; rfl)) (fun J J J=>trivial) (fun k hk m J=>A4 (Ay (Ac Bi) (Dw hk rfl)) Ah Yl) (fun k hk m J J=>Ac Bi) (by lia) trivial
theorem Yz:F2 [.id .tasking] (toA w)=some (.flist (((List.range w.n).filter fun k=>!decide ((w.T k).st = "done") && !decide ((w.T k).st = "fresh")).map fun k=>.int (w.T k).num),toA w):=by
 apply Bv rfl
 unfold Hy
 apply A8
 apply B7
 apply D8
 ·exact Ay (Ac rfl) rfl
 ·exact K3 (n:=w.n) (P:=fun J=>True) (fun j=>B5 (by rw [← htn]; rfl)) (fun J J J=>trivial) (fun k hk m J=>by
   apply B2
   ·exact A4 (Ay (Ac Bi) (Dw hk rfl)) Ah Afg
   ·cases decide ((w.T k).st = "done") with
    | true=>exact Dj rfl rfl
    | false =>
     apply Df rfl
     apply B2
     ·exact A4 (Ay (Ac Bi) (Dw hk rfl)) Ah Afg
     ·cases decide ((w.T k).st = "fresh") <;> rfl) (fun k hk m J J=>Ay (Ac Bi) (Fw hk rfl)) (by lia) trivial
end
theorem Amh {w:Ws}:H8 [.id .tasking] (toA w)=some (.bool false,toA w):=by
 apply Bv rfl
 unfold Lv
 apply Ak
 ·exact A7 (Ay (Ac rfl) rfl)
 apply Ak
 ·exact Ca (Cj Au (Nat.zero_le _)) (Ac rfl) Alq
 apply A8
 apply Cw
 ·exact A4 (Ay (Ac rfl) rfl) Ah rfl
 exact A8 (B7 Ah)
theorem Akh {w:Ws} {xs:List AVal} {ws:List Int} {m:B1} (hx:xs≠[]) (hxs:xs.length < 1000) (hws:ws≠[]) (hW:w.wishes=.flist (ws.map .int)) (hst:w.steps.length < 900000) :
  ∃ i st,i < xs.length∧st.length=w.steps.length + 1∧∀ y,xs[i]?=some y→m.lookup "ready" = some (.flist xs)→m.lookup "tasking" = some (.id .tasking)→Ta Gj (Ad "tasking") (Ad "ready") m (toA w)=some (y,toA (w.s_steps st)):=by
 have hl:0 < ws.length:=List.length_pos_iff.mpr hws
 have hxl:0 < xs.length:=List.length_pos_iff.mpr hx
 obtain ⟨x,hxw⟩:∃ x,ws[w.steps.length % ws.length]?=some x:=⟨_,List.getElem?_eq_getElem (Nat.mod_lt _ hl)⟩
 have hidx:0≤x.fmod xs.length∧x.fmod xs.length < xs.length:=⟨Int.fmod_nonneg_of_pos _ (by lia),Int.fmod_lt_of_pos _ (by lia)⟩
 refine ⟨(x.fmod xs.length).toNat,w.steps++[.int (x.fmod xs.length)],by lia,by simp,fun y hy hm1 hm2=>?_⟩
 have e1:Gj [("ready",.flist xs)] (toA w)=some (.ret y,[("ready",.flist xs)],toA (w.s_steps (w.steps++[.int (x.fmod xs.length)]))):=by
  unfold Gj
  apply Ak
  ·apply Bo
   apply Dv
   ·exact (show Sm .scell _ (toA w)=some (.id .steps,toA w) from rfl)
   ·exact Cv rfl
   ·apply Ae
    ·apply H0
     ·apply Ax
      ·exact (show Sm .wcell _ (toA w)=some (w.wishes,toA w) from rfl)
      ·apply H0
       ·exact Aw (Ae (show Sm .scell _ (toA w)=some (.id .steps,toA w) from rfl) Au) (show F7 [.id .steps] (toA w)=some (.int w.steps.length,toA w) from rfl)
       ·apply Aw
        ·exact Ae (show Sm .wcell _ (toA w)=some (w.wishes,toA w) from rfl) Au
        ·rw [hW]
         exact (show F7 [.flist (ws.map .int)] (toA w)=some (.int (ws.map AVal.int).length,toA w) from rfl)
       ·rw [List.length_map]
        exact if_neg (by lia)
      ·rw [hW]
       show (some (ws.map AVal.int)).bind (fun l=>Hh l ((w.steps.length:Int).fmod (ws.length:Int)))=some (.int x)
       rw [Option.bind_some]
       have hm:(w.steps.length:Int).fmod (ws.length:Int)=((w.steps.length % ws.length:Nat):Int):=by
        rw [Int.fmod_eq_emod_of_nonneg _ (by lia)]; rfl
       rw [hm]
       have hlt:w.steps.length % ws.length≤w.steps.length:=Nat.mod_le _ _
       unfold Hh
       rw [if_pos (by lia),if_pos (by lia),Int.toNat_natCast,List.getElem?_map,hxw]; rfl
     ·exact Aw (Ae (Ac rfl) Au) (show F7 [.flist xs] (toA w)=some (.int xs.length,toA w) from rfl)
     ·exact if_neg (by lia)
    ·exact Au
   ·exact Af2 rfl (by lia)
  apply A8
  apply B7
  apply Ax
  ·exact Ac rfl
  ·apply Ax
   ·exact (show Sm .scell _ (toA (w.s_steps (w.steps++[.int (x.fmod xs.length)])))=some (.id .steps,toA (w.s_steps (w.steps++[.int (x.fmod xs.length)]))) from rfl)
   ·exact (show Aht (An (.int 1)) _ (toA (w.s_steps (w.steps++[.int (x.fmod xs.length)])))=some (.int (-1),_) from rfl)
   ·show ((toA (w.s_steps (w.steps++[AVal.int (x.fmod xs.length)]))).lst (.id .steps)).bind (fun l=>Hh l (-1))=some (.int (x.fmod xs.length))
    rw [Lg (w:=w.s_steps (w.steps++[AVal.int (x.fmod xs.length)])) (i:=.steps) (xs:=w.steps++[AVal.int (x.fmod xs.length)]) rfl,Option.bind_some]
    unfold Hh
    rw [if_neg (by lia),if_pos (by rw [List.length_append]; simp only [List.length_cons,List.length_nil]; lia)]
    have:(-1 + ((w.steps++[AVal.int (x.fmod xs.length)]).length:Int)).toNat=w.steps.length:=by rw [List.length_append]; simp only [List.length_cons,List.length_nil]; lia
    rw [this,List.getElem?_append_right (Nat.le_refl _),Nat.sub_self]; rfl
  ·show (some xs).bind (fun l=>Hh l (x.fmod xs.length))=some y
   rw [Option.bind_some]
   unfold Hh
   rw [if_pos hidx.1,if_pos (by lia)]; exact hy
 unfold Ta
 rw [Ac hm2,Option.bind_some]
 show (match some ((496:Addr),tkF w) with | some (C,fs)=>if C=496 then (match fs.lookup "choose" with | some (.id .chooser)=>((Ad "ready") m (toA w)).bind fun q=>Qv Gj q.1 q.2 | _=>none) else none | none=>none)=_
 show ((Ad "ready") m (toA w)).bind (fun q=>Qv Gj q.1 q.2)=_
 rw [Ac hm1,Option.bind_some]
 show (Gj [("ready",.flist xs)] (toA w)).bind _=_
 rw [e1]; rfl
end
noncomputable def Eb (w:Ws):List Nat:=(List.range w.n).filter fun k=>decide ((w.T k).st = "ready")
theorem F4 {w:Ws} {k:Nat}:k∈Eb w ↔ k < w.n∧(w.T k).st = "ready" := by
 unfold Eb
 rw [List.mem_filter,List.mem_range]
 simp
theorem Afq {w:Ws} {ws:List Int} (hn:w.n < 40) (hne:Eb w≠[]) (hws:ws≠[]) (hW:w.wishes=.flist (ws.map .int)) (hst:w.steps.length < 900000) (hinj:∀ i j,i∈Eb w→j∈Eb w→(w.T i).num=(w.T j).num→i=j) :
  ∃ k st,k∈Eb w∧st.length=w.steps.length + 1∧Gn [.id .tasking,.flist ((Eb w).map fun k=>.id (.task k))] (toA w)=some (.id (.task k),toA (w.s_steps st)):=by
 have hlen:(Eb w).length < 1000:=by
  have:(Eb w).length≤w.n:=by
   unfold Eb
   exact Nat.le_trans (List.length_filter_le _ _) (by rw [List.length_range]; exact Nat.le_refl _)
  lia
 obtain ⟨i,st,h1,h2,h3⟩:=Akh (w:=w) (xs:=(Eb w).map fun k=>AVal.id (.task k)) (m:=Dc ["tasking", "ready"] [.id .tasking,.flist ((Eb w).map fun k=>.id (.task k))]) (by simpa using hne) (by rw [List.length_map]; exact hlen) hws hW hst
 rw [List.length_map] at h1
 have hk:(Eb w)[i]∈Eb w:=List.getElem_mem h1
 have hkn:=(F4.mp hk).1
 have e1:=h3 (.id (.task (Eb w)[i])) (by rw [List.getElem?_map,List.getElem?_eq_getElem h1]; rfl) rfl rfl
 refine ⟨(Eb w)[i],st,hk,h2,?_⟩
 have loop:∀ (l:List Nat) (pre:List Nat) (n:Nat) (m:B1),Eb w=pre++l→(Eb w)[i]∈l→m.lookup "chosen" = some (.id (.task (Eb w)[i]))→l.length < n →
   ∃ m',Vc (.flist ((Eb w).map fun k=>.id (.task k))) (B3 "task") (Am (sIf (Bs cEq (A1 (Ad "task") "number") (A1 (Ad "chosen") "number")) (Am (C4 (Ad "task")) Aq) Aq) Aq) n pre.length m (toA (w.s_steps st))=some (.ret (.id (.task (Eb w)[i])),m',toA (w.s_steps st)):=by
  intro l
  induction l with
  | nil=>intro pre n m _ h; cases h
  | cons a l ih =>
   intro pre n m hp hm hc hn'
   obtain ⟨n,rfl⟩:∃ n',n=n' + 1:=⟨n - 1,by simp only [List.length_cons] at hn'; lia⟩
   have har:a∈Eb w:=by rw [hp]; simp
   have han:a < w.n:=(F4.mp har).1
   have hit:(toA (w.s_steps st)).its (.flist ((Eb w).map fun k=>.id (.task k))) pre.length=some (some (.id (.task a))):=by
    show some (((Eb w).map fun k=>AVal.id (.task k))[pre.length]?)=_
    rw [List.getElem?_map,hp,List.getElem?_append_right (Nat.le_refl _),Nat.sub_self]; rfl
   have hcmp:Bs cEq (A1 (Ad "task") "number") (A1 (Ad "chosen") "number") (Bd m "task" (.id (.task a))) (toA (w.s_steps st))=some (decide ((w.T a).num=(w.T (Eb w)[i]).num),toA (w.s_steps st)):=by
    apply A4
    ·exact Ay (Ac Bi) (Fw (w:=w.s_steps st) han rfl)
    ·exact Ay (Ac ((Cq (by decide)).trans hc)) (Fw (w:=w.s_steps st) hkn rfl)
    ·exact Acn
   by_cases ha:a=(Eb w)[i]
   ·refine ⟨Bd m "task" (.id (.task a)),?_⟩
    rw [← ha] at hcmp ⊢
    rw [decide_eq_true rfl] at hcmp
    apply U8 hit rfl
    exact A8 (Cw hcmp (A8 (B7 (Ac Bi))))
   ·have:decide ((w.T a).num=(w.T (Eb w)[i]).num)=false:=decide_eq_false fun h=>ha (hinj _ _ har hk h)
    rw [this] at hcmp
    have hml:(Eb w)[i]∈l:=(List.mem_cons.mp hm).resolve_left fun h=>ha h.symm
    obtain ⟨m',e⟩:=ih (pre++[a]) n (Bd m "task" (.id (.task a))) (by rw [hp,List.append_assoc]; rfl) hml ((Cq (by decide)).trans hc) (by simp only [List.length_cons] at hn'; lia)
    refine ⟨m',?_⟩
    apply Fj hit rfl
    ·exact Ak (Br hcmp Ar) Ar
    ·rw [List.length_append] at e; exact e
 obtain ⟨m',e2⟩:=loop (Eb w) [] 1000 (Bd (Dc ["tasking", "ready"] [.id .tasking,.flist ((Eb w).map fun k=>.id (.task k))]) "chosen" (.id (.task (Eb w)[i]))) rfl hk rfl hlen
 apply Bv rfl
 unfold I3
 apply Ak
 ·exact A7 e1
 apply A8
 apply D4
 ·exact Ac rfl
 ·exact e2
theorem Acy {w:Ws} {n d:Nat} {t:Int} {f:Nat→AVal} (hd:d < n) (hn:n < 900) (hf:f d=.int t) (hno:∀ k,k < n→k≠d→f k=.none):Mp [.flist ((List.range n).map f)] (toA w)=some (.int t,toA w):=by
 obtain ⟨m',σ',e1,e2,e3⟩:=Jd (v:=.flist ((List.range n).map f)) (xs:=(List.range n).map f) (nm := "time")
  (body:=(Am (sIf (Dg (Bs Ff (Ad "time") (An .none)) (Dg (bOr (Bs cIs (Ad "least") (An .none)) (bOr (Bs (K2 fun a b=>decide (a < b)) (Ad "time") (Ad "least")) (Cp false))) (Cp true))) (Am (Bb "least" (Ad "time")) Aq) Aq) Aq))
  (I:=fun i m σ=>σ=toA w∧m.lookup "least" = some (if d < i then .int t else .none)) (fun k m σ h=>by rw [h.1]; rfl)
  (fun k x hx m σ h=>by
   obtain ⟨rfl,hm⟩:=h
   have hk:k < n:=by
    obtain ⟨h,_⟩:=List.getElem?_eq_some_iff.mp hx
    rw [List.length_map,List.length_range] at h; exact h
   rw [List.getElem?_map,List.getElem?_range hk] at hx
   cases hx
   have hl:(Bd m "time" (f k)).lookup "least" = some (if d < k then .int t else .none):=(Cq (by decide)).trans hm
   by_cases hkd:k=d
   ·subst hkd
    rw [if_neg (Nat.lt_irrefl _)] at hl
    refine ⟨Bd (Bd m "time" (f k)) "least" (f k),toA w,?_,rfl,by rw [Bi,if_pos (Nat.lt_succ_self _),hf]⟩
    apply Ak
    ·apply Cw
     ·apply B2
      ·exact A4 (Ac Bi) Ah (by rw [hf]; rfl)
      ·apply Df rfl
       apply B2
       ·apply Ku
        ·exact A4 (Ac hl) Ah rfl
        ·exact Df rfl rfl
       ·exact Df rfl Ib
     exact Ak (A7 (Ac Bi)) Ar
    exact Ar
   ·refine ⟨Bd m "time" (f k),toA w,?_,rfl,?_⟩
    ·apply Ak
     ·apply Br
      ·apply B2
       ·exact A4 (Ac Bi) Ah (by rw [hno k hk hkd]; rfl)
       ·exact Dj rfl rfl
      exact Ar
     exact Ar
    ·have:d < k + 1 ↔ d < k:=by lia
     rw [hl]; simp only [this])
  1000 0 (Bd (Dc ["times"] [.flist ((List.range n).map f)]) "least" .none) (toA w) (by rw [List.length_map,List.length_range]; lia) (Nat.zero_le _) ⟨rfl,rfl⟩
 rw [List.length_map,List.length_range,if_pos hd] at e3
 subst e2
 apply Bv rfl
 unfold Nb
 apply Ak (A7 Ah)
 apply Ak
 ·apply D4 (Ac rfl)
  exact e1
 exact A8 (B7 (Ac e3))
theorem Aki {w:Ws} {x:AVal} {b:Bool} (h:(x=.none∧b=false)∨∃ t,x=.int t∧b=decide (t≤w.now)):Ki [.id .clock,x] (toA w)=some (.bool b,toA w):=by
 apply Bv rfl
 unfold Qc
 apply A8
 apply B7
 rcases h with ⟨rfl,rfl⟩ | ⟨t,rfl,rfl⟩
 ·apply Oq
  ·exact Gv (Ac rfl) Ah rfl
  ·exact rfl
  ·exact Dj rfl rfl
 ·apply Oq
  ·exact Gv (Ac rfl) Ah rfl
  ·exact rfl
  ·apply Df rfl
   exact Gv (Ac rfl) (Ay (Ac rfl) rfl) rfl
theorem Aol {w:Ws} {d:Nat} {t:Int} (htn:w.tn=w.n) (hn:w.n < 40) (hd:d < w.n) (hds:(w.T d).st = "delayed") (hdw:(w.T d).wake=.int t) (ht:w.now≤t) (hno:∀ k,k < w.n→k≠d→(w.T k).wake=.none) :
  Jc [.id .tasking] (toA w)=some (.none,toA ((w.s_now t).setT d ((w.T d).woken .none .none))):=by
 have hwk:=K3 (w:=w) (v:=.id .tasksL) (nm := "task") (bt:=Cp true) (el:=A1 (Ad "task") "wake") (n:=w.n) (P:=fun J=>True) (b:=fun J=>true) (e:=fun k=>(w.T k).wake) (N:=1000) (m:=Gg (Dc ["tasking"] [.id .tasking]) []) (fun j=>B5 (by rw [← htn]; rfl)) (fun J J J=>trivial) (fun k hk m J=>rfl) (fun k hk m J J=>Ay (Ac Bi) (T4 hk rfl)) (by lia) trivial
 rw [List.filter_eq_self.mpr fun J J=>rfl] at hwk
 have hnt:=Acy (w:=w) (f:=fun k=>(w.T k).wake) hd (by lia) hdw hno
 have hmv:K9 [.id .clock,.int t] (toA w)=some (.none,toA (w.s_now t)):=by
  apply Eq.trans
  ·apply Ch rfl
   unfold Lu
   apply Ak
   ·exact Ca (Aw (Ae (Ay (Ac rfl) rfl) (Ae (Ac rfl) Au)) rfl) (Ac rfl) An1
   exact Ar
  ·rw [show max w.now t=t by lia]
 obtain ⟨m',σ',e1,e2,e3⟩:=Jd (v:=.id .tasksL) (xs:=tl w.n) (nm := "task")
  (body:=(Am (sIf (Cz (Az Ki (Af (A1 (Ad "tasking") "clock") (Af (A1 (Ad "task") "wake") Ap)))) (Am (Bw (Az Jb (Af (Ad "tasking") (Af (Ad "task") Ap)))) (Am (Bw (Az H9 (Af (Ad "task") Ap))) Aq)) Aq) Aq))
  (I:=fun i m σ=>σ=toA (if d < i then (w.s_now t).setT d ((w.T d).woken .none .none) else w.s_now t)∧m.lookup "tasking" = some (.id .tasking))
  (fun k m σ h=>by
   rw [h.1]
   split
   ·exact B5 (w:=(w.s_now t).setT d ((w.T d).woken .none .none)) (i:=.tasksL) (by rw [← htn]; rfl)
   ·exact B5 (w:=w.s_now t) (i:=.tasksL) (by rw [← htn]; rfl))
  (fun k x hx m σ h=>by
   obtain ⟨rfl,hm⟩:=h
   have hk:k < w.n:=by
    obtain ⟨h,_⟩:=List.getElem?_eq_some_iff.mp hx
    rw [E1] at h; exact h
   rw [Aax hk] at hx
   cases hx
   have hm':(Bd m "task" (.id (.task k))).lookup "tasking" = some (.id .tasking):=(Cq (by decide)).trans hm
   by_cases hkd:k=d
   ·subst hkd
    rw [if_neg (Nat.lt_irrefl _),if_pos (Nat.lt_succ_self _)]
    refine ⟨Bd m "task" (.id (.task k)),_,?_,rfl,hm'⟩
    apply Ak
    ·apply Cw
     ·apply Bk
      apply Aw
      ·exact Ae (Ay (Ac hm') rfl) (Ae (Ay (Ac Bi) ((T4 (w:=w.s_now t) hk rfl).trans (congrArg some hdw))) Au)
      ·exact Aki (.inr ⟨t,rfl,(decide_eq_true (Int.le_refl t)).symm⟩)
     apply Ak
     ·exact Bo (Aw (Ae (Ac hm') (Ae (Ac Bi) Au)) (Aoj (w:=w.s_now t) hk rfl (by show (w.T k).st≠_; rw [hds]; decide)))
     apply Ak
     ·exact Bo (Aw (Ae (Ac Bi) Au) (Ahf (w:=w.s_now t) hk rfl hds))
     exact Ar
    exact Ar
   ·have:(d < k + 1) ↔ d < k:=by lia
    refine ⟨Bd m "task" (.id (.task k)),toA (if d < k then (w.s_now t).setT d ((w.T d).woken .none .none) else w.s_now t),?_,by simp only [this],hm'⟩
    split
    ·apply Ak
     ·apply Br
      ·apply Bk
       apply Aw
       ·exact Ae (Ay (Ac hm') rfl) (Ae (Ay (Ac Bi) (T4 (w:=(w.s_now t).setT d ((w.T d).woken .none .none)) hk (Av _ _ hkd))) Au)
       ·exact Aki (.inl ⟨hno k hk hkd,rfl⟩)
      exact Ar
     exact Ar
    ·apply Ak
     ·apply Br
      ·apply Bk
       apply Aw
       ·exact Ae (Ay (Ac hm') rfl) (Ae (Ay (Ac Bi) (T4 (w:=w.s_now t) hk rfl)) Au)
       ·exact Aki (.inl ⟨hno k hk hkd,rfl⟩)
      exact Ar
     exact Ar)
  1000 0 (Bd (Dc ["tasking"] [.id .tasking]) "time" (.int t)) (toA (w.s_now t)) (by rw [E1]; lia) (Nat.zero_le _) ⟨by rw [if_neg (Nat.not_lt_zero _)],rfl⟩
 rw [E1,if_pos hd] at e2
 subst e2
 apply Ch rfl
 unfold Nd
 apply Ak
 ·apply A7
  apply Aw
  ·apply Ae
   ·apply D8
    ·exact Ay (Ac rfl) rfl
    ·exact hwk
   ·exact Au
  ·exact hnt
 apply Ak
 ·apply Br
  ·exact A4 (Ac rfl) Ah rfl
  exact Ar
 apply Ak
 ·exact Bo (Aw (Ae (Ay (Ac rfl) rfl) (Ae (Ac rfl) Au)) hmv)
 apply Ak
 ·apply D4 (Ay (Ac rfl) rfl)
  exact e1
 exact Ar
section
structure PickOk (w:Ws) (ws:List Int):Prop where
 W:w.wishes=.flist (ws.map .int)
 ne:ws≠[]
 st:w.steps.length < 800000
 inj:∀ i j,i < w.n→j < w.n→(w.T i).num=(w.T j).num→i=j
 wk:∀ k,k < w.n→(w.T k).st ≠ "delayed" → (w.T k).wake=.none
inductive SameN (w w':Ws):Prop
 | mk (T:Nat→TS) (M:Nat→Option MS) (G:Nat→Option AObj) (g:Nat) (s:Int) (nw:Int) (st:List AVal) (e:w'={ w with T:=T,M:=M,G:=G,gn:=g,settled:=s,now:=nw,steps:=st }) (l:w.gn≤g) (k:∀ j,j < w.gn→G j=w.G j) (n:st.length=w.steps.length + 1):SameN w w'
theorem Same.steps {a b:Ws} {st:List AVal} (h:Same a b) (hl:st.length=a.steps.length + 1):SameN a (b.s_steps st):=by
 obtain ⟨T,M,G,g,s,rfl,l,k⟩:=h
 exact ⟨T,M,G,g,s,_,st,rfl,l,k,hl⟩
noncomputable def Amr:B:=(bOr (Cz (Az K7 (Af (Ad "tasking") Ap))) (bOr (Cz (Az H8 (Af (Ad "tasking") Ap))) (Cp false)))
noncomputable def Ao1:SD:=(Am (Bw (Az Dq (Af (Ad "tasking") Ap))) (Am (D5 Amr (Am (Bw (Az Dq (Af (Ad "tasking") Ap))) Aq) 1000) (Am (Bb "ready" (Az G9 (Af (Ad "tasking") Ap))) (Am (sIf (Cz (Ad "ready")) (Am (C4 (Az Gn (Af (Ad "tasking") (Af (Ad "ready") Ap)))) Aq) Aq) (Am (sIf (Bs cEq (Az F2 (Af (Ad "tasking") Ap)) (Db Ap)) (Am (C4 (An .none)) Aq) Aq) (Am (Bw (Az Jc (Af (Ad "tasking") Ap))) Aq))))))
theorem Vb {v:AVal} {σ r:AS} {m':B1} (h:D5 (Cz (An (.bool true))) Ao1 1000 (Dc ["tasking"] [.id .tasking]) σ=some (.ret v,m',r)):Cg [.id .tasking] σ=some (v,r):=by
 apply Bv rfl
 unfold Nf
 exact A8 h
theorem Lf {w:Ws} {m:B1} (hm:m.lookup "tasking" = some (.id .tasking)) (htn:w.tn=w.n) (hn:w.n < 40) (hw:∀ k,k < w.n→(w.T k).st = "calling" → (w.T k).wake=.none):Amr m (toA w)=some (false,toA w):=by
 apply Ku
 ·exact Bk (Aw (Ae (Ac hm) Au) (Aek htn hn hw))
 ·apply Dj rfl
  apply Ku
  ·exact Bk (Aw (Ae (Ac hm) Au) Amh)
  ·exact Dj rfl rfl
theorem X0 {t:TS} {c:Cl} (h:V1 t c) (hs:t.st = "ready"):c=.act:=by
 cases c with
 | act=>rfl
 | acc=>obtain ⟨h,_⟩:=h; rw [hs] at h; exact absurd h (by decide)
 | comp=>have h:t.st = "completed" := h; rw [hs] at h; exact absurd h (by decide)
 | done=>have h:t.st = "done" := h; rw [hs] at h; exact absurd h (by decide)
inductive SetEx (w:Ws) (nst:Bool) (c:Nat→Cl) (ws:List Int):Prop
 | mk (w₁:Ws) (a0:Dq [.id .tasking] (toA w)=some (.none,toA w₁)) (a1:Arr w₁ nst (fin0 nst c)) (a2:Same w w₁) (a3:w₁.M=w.M) (a4:(∀ k,(Ew (c k)=false→w₁.T k=w.T k)∧(w₁.T k=w.T k∨w₁.T k=(w.T k).s_st "done"))) (a5:Eb w₁=Eb w) (a6:PickOk w₁ ws):SetEx w nst c ws
inductive RdyEx (w:Ws) (nst:Bool) (c:Nat→Cl):Prop
 | mk (w₁:Ws) (k:Nat) (st:List AVal) (a0:k∈Eb w) (a1:Cg [.id .tasking] (toA w)=some (.id (.task k),toA (w₁.s_steps st))) (a2:st.length=w.steps.length + 1) (a3:Arr w₁ nst (fin0 nst c)) (a4:Same w w₁) (a5:w₁.M=w.M) (a6:∀ k,(Ew (c k)=false→w₁.T k=w.T k)∧(w₁.T k=w.T k∨w₁.T k=(w.T k).s_st "done")):RdyEx w nst c
inductive RstEx (w:Ws) (nst:Bool) (c:Nat→Cl) (d:Nat) (t:Int):Prop
 | mk (w₃:Ws) (st:List AVal) (a0:Cg [.id .tasking] (toA w)=some (.id (.task d),toA (w₃.s_steps st))) (a1:st.length=w.steps.length + 1) (a2:Arr w₃ nst (fin0 nst c)) (a3:Same (w.s_now t) w₃) (a4:w₃.M=w.M) (a5:∀ k,(k≠d→Ew (c k)=false→w₃.T k=w.T k)∧(k≠d→(w₃.T k=w.T k∨w₃.T k=(w.T k).s_st "done"))∧(k=d→w₃.T k=(w.T k).woken .none .none)):RstEx w nst c d t
section
variable {w:Ws} {nst:Bool} {c:Nat→Cl} {ws:List Int} (A:Arr w nst c) (O:PickOk w ws) (hact:∃ k,k < w.n∧c k=.act) (hst:∀ k,k < w.n→0 < k→c k=.act∨c k=.acc) (h0:nst=true→c 0≠.done)
include A O hact hst h0
theorem J9:SetEx w nst c ws:=by
 obtain ⟨w₁,e,A₁,S₁,M₁,T₁⟩:=Ad8 A hact hst h0
 have hnum:∀ k,(w₁.T k).num=(w.T k).num∧(w₁.T k).wake=(w.T k).wake:=fun k=>by
  rcases (T₁ k).2 with h | h <;> rw [h] <;> exact ⟨rfl,rfl⟩
 refine ⟨w₁,e,A₁,S₁,M₁,T₁,?_,?_⟩
 ·unfold Eb
  rw [S₁.n]
  refine List.filter_congr fun k hk=>?_
  have hk:=List.mem_range.mp hk
  cases hc:Ew (c k) with
  | false=>rw [(T₁ k).1 hc]
  | true =>
   have h1:(w.T k).st ≠ "ready" := fun h=>by
    have:=X0 (A.sts k hk) h
    rw [this] at hc; cases hc
   have h2:(w₁.T k).st ≠ "ready" := fun h=>by
    have:=X0 (A₁.sts k (by rw [S₁.n]; exact hk)) h
    unfold fin0 at this
    split at this
    ·cases this
    ·rw [this] at hc; cases hc
   rw [decide_eq_false h1,decide_eq_false h2]
 ·have hS:=S₁
  obtain ⟨T,M,G,g,s,rfl,_⟩:=hS
  exact ⟨O.W,O.ne,O.st,fun i j hi hj h=>O.inj i j hi hj (by rw [← (hnum i).1,← (hnum j).1]; exact h),fun k hk h=>by
   rw [(hnum k).2]
   rcases (T₁ k).2 with g | g
   ·rw [g] at h; exact O.wk k hk h
   ·by_cases hd:(w.T k).st = "delayed"
    ·have hcc:Ew (c k)=false:=by
      have:=A.sts k hk
      cases hc:c k <;> rw [hc] at this <;> first | rfl | (have this:(w.T k).st = "completed" := this; rw [hd] at this; exact absurd this (by decide))
     have:=(T₁ k).1 hcc
     rw [this] at g
     have h':=congrArg TS.st g
     rw [hd] at h'
     exact absurd h' (by show ("delayed" : String) ≠ "done"; decide)
    ·exact O.wk k hk hd⟩
theorem Ad0 (hr:Eb w≠[]):RdyEx w nst c:=by
 obtain ⟨w₁,e,A₁,S₁,M₁,T₁,hrd,O₁⟩:=J9 A O hact hst h0
 have hs₁:w₁.steps=w.steps:=by obtain ⟨T,M,G,g,s,rfl,_⟩:=S₁; rfl
 obtain ⟨k,st,hk,hl,hch⟩:=Afq (w:=w₁) A₁.n (by rw [hrd]; exact hr) O₁.ne O₁.W (by have:=O₁.st; lia) (fun i j hi hj h=>O₁.inj i j (F4.mp hi).1 (F4.mp hj).1 h)
 have hrdy:=Ti A₁.tn A₁.n
 refine ⟨w₁,k,st,by rw [← hrd]; exact hk,?_,by rw [hl,hs₁],A₁,S₁,M₁,T₁⟩
 apply Vb
 apply Ad4 (Bk Ah)
 apply Ak
 ·exact Bo (Aw (Ae (Ac rfl) Au) e)
 apply Ak
 ·apply Mb
  exact Lf rfl A₁.tn A₁.n fun k hk h=>O₁.wk k hk (by rw [h]; decide)
 apply Ak
 ·exact A7 (Aw (Ae (Ac rfl) Au) hrdy)
 apply A8
 apply Cw
 ·apply G3
  ·exact Ac rfl
  ·show some (!((Eb w₁).map fun k=>AVal.id (.task k)).isEmpty)=some true
   rw [hrd]
   cases h:Eb w with
   | nil=>exact absurd h hr
   | cons _ _=>rfl
 exact A8 (B7 (Aw (Ae (Ac rfl) (Ae (Ac rfl) Au)) hch))
end
theorem Ag2 {w:Ws} {nst:Bool} {c:Nat→Cl} {ws:List Int} {d:Nat} {t:Int} (A:Arr w nst c) (O:PickOk w ws) (hst:∀ k,k < w.n→0 < k→c k=.act∨c k=.acc) (h0:nst=true→c 0≠.done) (hr:Eb w=[]) (hd:d < w.n) (hds:(w.T d).st = "delayed") (hdw:(w.T d).wake=.int t) (ht:w.now≤t) (hod:∀ k,k < w.n→k≠d→(w.T k).st ≠ "delayed") :
  RstEx w nst c d t:=by
 have hcd:c d=.act:=by
  have:=A.sts d hd
  cases hc:c d with
  | act=>rfl
  | acc=>rw [hc] at this; obtain ⟨h,_⟩:=this; rw [hds] at h; exact absurd h (by decide)
  | comp=>rw [hc] at this; have h:(w.T d).st = "completed" := this; rw [hds] at h; exact absurd h (by decide)
  | done=>rw [hc] at this; have h:(w.T d).st = "done" := this; rw [hds] at h; exact absurd h (by decide)
 obtain ⟨w₁,e,A₁,S₁,M₁,T₁,hrd,O₁⟩:=J9 A O ⟨d,hd,hcd⟩ hst h0
 have hn₁:=S₁.n
 have hTd:w₁.T d=w.T d:=(T₁ d).1 (by rw [hcd]; rfl)
 have hs₁:w₁.steps=w.steps∧w₁.now=w.now:=by obtain ⟨T,M,G,g,s,rfl,_⟩:=S₁; exact ⟨rfl,rfl⟩
 have hrdy:=Ti A₁.tn A₁.n
 have hwt:=Yz A₁.tn A₁.n
 have hps:=Aol (w:=w₁) (d:=d) (t:=t) A₁.tn A₁.n (by lia) (by rw [hTd]; exact hds) (by rw [hTd]; exact hdw) (by rw [hs₁.2]; exact ht) fun k hk hkd=>O₁.wk k hk fun h=>by
  rcases (T₁ k).2 with g | g
  ·rw [g] at h; exact hod k (by lia) hkd h
  ·rw [g] at h; exact absurd h (by show ("done" : String) ≠ "delayed"; decide)
 have hfd:fin0 nst c d=.act:=by unfold fin0; rw [hcd]; simp
 have A₂:Arr ((w₁.s_now t).setT d ((w₁.T d).woken .none .none)) nst (fin0 nst c) :=
  ⟨A₁.tn,A₁.n0,A₁.n,fun k hk=>by
   by_cases h:k=d
   ·subst h
    rw [hfd]
    show V1 (updN w₁.T k _ k) .act
    rw [Al]
    exact ⟨by show ("ready" : String)≠_; decide,by show ("ready" : String)≠_; decide,by show ("ready" : String)≠_; decide,by show ("ready" : String)≠_; decide,by show ("ready" : String)≠_; decide⟩
   ·show V1 (updN w₁.T d _ k) _
    rw [Av _ _ h]; exact A₁.sts k hk,A₁.libE,A₁.lib0,A₁.lib1,A₁.ms0,A₁.ms1,A₁.fresh⟩
 have O₂:PickOk ((w₁.s_now t).setT d ((w₁.T d).woken .none .none)) ws:=⟨O₁.W,O₁.ne,O₁.st,fun i j hi hj h=>by
  refine O₁.inj i j hi hj ?_
  have hh:∀ k,(updN w₁.T d ((w₁.T d).woken .none .none) k).num=(w₁.T k).num:=fun k=>by
   by_cases hk:k=d
   ·subst hk; rw [Al]; rfl
   ·rw [Av _ _ hk]
  rw [← hh i,← hh j]; exact h,fun k hk h=>by
  show (updN w₁.T d ((w₁.T d).woken .none .none) k).wake=_
  by_cases hk':k=d
  ·subst hk'; rw [Al]; rfl
  ·rw [Av _ _ hk']
   refine O₁.wk k hk ?_
   have:(updN w₁.T d ((w₁.T d).woken .none .none) k).st ≠ "delayed" := h
   rw [Av _ _ hk'] at this; exact this⟩
 have hr₂:Eb ((w₁.s_now t).setT d ((w₁.T d).woken .none .none))≠[]:=fun h=>by
  have:d∈Eb ((w₁.s_now t).setT d ((w₁.T d).woken .none .none)):=F4.mpr ⟨by show d < w₁.n; lia,by show (updN w₁.T d _ d).st=_; rw [Al]; rfl⟩
  rw [h] at this; cases this
 obtain ⟨w₃,e₃,A₃,S₃,M₃,T₃,hrd₃,O₃⟩:=J9 A₂ O₂ ⟨d,by show d < w₁.n; lia,hfd⟩ (fun k hk h=>by
  have:=hst k (by rw [← hn₁]; exact hk) h
  unfold fin0
  rcases this with g | g <;> rw [g]
  ·left; simp
  ·right; simp) (fun hn=>by
  unfold fin0
  rw [if_neg (by rw [hn]; simp)]
  exact h0 hn)
 obtain ⟨k,st,hk,hl,hch⟩:=Afq (w:=w₃) A₃.n (by rw [hrd₃]; exact hr₂) O₃.ne O₃.W (by have:=O₃.st; lia) (fun i j hi hj h=>O₃.inj i j (F4.mp hi).1 (F4.mp hj).1 h)
 have hs₃:w₃.steps=w.steps:=by
  have h1:w₃.steps=w₁.steps:=by obtain ⟨T,M,G,g,s,e,_⟩:=S₃; rw [e]; rfl
  rw [h1,hs₁.1]
 have hkd:k=d:=by
  rw [hrd₃] at hk
  obtain ⟨hk1,hk2⟩:=F4.mp hk
  by_cases h:k=d
  ·exact h
  ·exfalso
   have hk2:(updN w₁.T d ((w₁.T d).woken .none .none) k).st = "ready" := hk2
   rw [Av _ _ h] at hk2
   have:k∈Eb w₁:=F4.mpr ⟨hk1,hk2⟩
   rw [hrd,hr] at this; cases this
 subst hkd
 have hrdy₃:=Ti A₃.tn A₃.n
 have hff:∀ j,fin0 nst (fin0 nst c) j=fin0 nst c j:=fun j=>by
  unfold fin0
  by_cases g:nst=false∧c j=.comp
  ·simp [g]
  ·rw [if_neg g,if_neg g]
 refine ⟨w₃,st,?_,by rw [hl,hs₃],A₃.congr fun j J=>(hff j).symm,?_,M₃.trans M₁,fun j=>⟨fun hj hc=>?_,fun hj=>?_,fun hj=>?_⟩⟩
 ·apply Vb
  apply Qa (Bk Ah)
  ·apply Ak
   ·exact Bo (Aw (Ae (Ac rfl) Au) e)
   apply Ak
   ·apply Mb
    exact Lf rfl A₁.tn A₁.n fun k hk h=>O₁.wk k hk (by rw [h]; decide)
   have hre:((List.range w₁.n).filter fun k=>decide ((w₁.T k).st = "ready"))=[]:=hrd.trans hr
   rw [hre] at hrdy
   apply Ak
   ·exact A7 (Aw (Ae (Ac rfl) Au) hrdy)
   apply Ak
   ·apply Br
    ·exact G3 (Ac rfl) rfl
    exact Ar
   apply Ak
   ·apply Br
    ·apply A4
     ·exact Aw (Ae (Ac rfl) Au) hwt
     ·exact Cj Au (Nat.zero_le _)
     ·rw [R5]
      refine congrArg some ?_
      cases hh:((List.range w₁.n).filter fun k=>!decide ((w₁.T k).st = "done") && !decide ((w₁.T k).st = "fresh")) with
      | nil =>
       have:k∈(List.range w₁.n).filter fun k=>!decide ((w₁.T k).st = "done") && !decide ((w₁.T k).st = "fresh"):=List.mem_filter.mpr ⟨List.mem_range.mpr (by lia),by rw [hTd,hds]; decide⟩
       rw [hh] at this; cases this
      | cons _ _=>rfl
    exact Ar
   apply Ak
   ·exact Bo (Aw (Ae (Ac rfl) Au) hps)
   exact Ar
  ·apply Ad4 (Bk Ah)
   apply Ak
   ·exact Bo (Aw (Ae (Ac rfl) Au) e₃)
   apply Ak
   ·apply Mb
    exact Lf rfl A₃.tn A₃.n fun k hk h=>O₃.wk k hk (by rw [h]; decide)
   apply Ak
   ·exact A7 (Aw (Ae (Ac rfl) Au) hrdy₃)
   apply A8
   apply Cw
   ·apply G3
    ·exact Ac rfl
    ·show some (!((Eb w₃).map fun k=>AVal.id (.task k)).isEmpty)=some true
     rw [hrd₃]
     cases h:Eb ((w₁.s_now t).setT k ((w₁.T k).woken .none .none)) with
     | nil=>exact absurd h hr₂
     | cons _ _=>rfl
   exact A8 (B7 (Aw (Ae (Ac rfl) (Ae (Ac rfl) Au)) hch))
 ·obtain ⟨T,M,G,g,s,e1,l1,k1⟩:=S₁
  obtain ⟨T',M',G',g',s',e2,l2,k2⟩:=S₃
  subst e1
  exact ⟨T',M',G',g',s',e2,Nat.le_trans l1 l2,fun j hj=>(k2 j (Nat.lt_of_lt_of_le hj l1)).trans (k1 j hj)⟩
 ·have h1:Ew (fin0 nst c j)=false:=by
   unfold fin0
   split
   ·rfl
   ·exact hc
  rw [(T₃ j).1 h1]
  show updN w₁.T k _ j=_
  rw [Av _ _ hj]; exact (T₁ j).1 hc
 ·have h3:=(T₃ j).2
  have:((w₁.s_now t).setT k ((w₁.T k).woken .none .none)).T j=w₁.T j:=Av _ _ hj
  rw [this] at h3
  rcases (T₁ j).2 with g | g <;> rw [g] at h3 <;> rcases h3 with h | h
  ·exact .inl h
  ·exact .inr h
  ·exact .inr h
  ·exact .inr h
 ·subst hj
  have h1:Ew (fin0 nst c j)=false:=by rw [hfd]; rfl
  rw [(T₃ j).1 h1]
  show updN w₁.T j _ j=_
  rw [Al,hTd]
theorem Aiy {w:Ws} {nst:Bool} {c:Nat→Cl} (A:Arr w nst c) (Q:Qd w c) (hn:1 < w.n) (h0:c 0=.comp∨(nst=false∧c 0=.done)) (hst:∀ k,k < w.n→0 < k→c k=.acc) :
  ∃ w',Cg [.id .tasking] (toA w)=some (.none,toA w')∧Same w w':=by
 obtain ⟨w',e,A',S'⟩:=Ad9 A Q hn h0 hst
 have hd:∀ k,k < w'.n→(w'.T k).st = "done" := fun k hk=>A'.sts k hk
 have hrdy:=Ti A'.tn A'.n
 have hwt:=Yz A'.tn A'.n
 have h1:((List.range w'.n).filter fun k=>decide ((w'.T k).st = "ready"))=[]:=List.filter_eq_nil_iff.mpr fun k hk=>by rw [hd k (List.mem_range.mp hk)]; decide
 have h2:((List.range w'.n).filter fun k=>!decide ((w'.T k).st = "done") && !decide ((w'.T k).st = "fresh"))=[]:=List.filter_eq_nil_iff.mpr fun k hk=>by rw [hd k (List.mem_range.mp hk)]; decide
 rw [h1] at hrdy
 rw [h2] at hwt
 refine ⟨w',?_,S'⟩
 apply Vb
 apply Ad4 (Bk Ah)
 apply Ak
 ·exact Bo (Aw (Ae (Ac rfl) Au) e)
 apply Ak
 ·apply Mb
  exact Lf rfl A'.tn A'.n fun k hk h=>by rw [hd k hk] at h; exact absurd h (by decide)
 apply Ak
 ·exact A7 (Aw (Ae (Ac rfl) Au) hrdy)
 apply Ak
 ·apply Br
  ·exact G3 (Ac rfl) rfl
  exact Ar
 apply A8
 apply Cw
 ·exact A4 (Aw (Ae (Ac rfl) Au) hwt) (Cj Au (Nat.zero_le _)) rfl
 exact A8 (B7 Ah)
end
noncomputable abbrev iv (l:List Int):List AVal:=l.map AVal.int
theorem Pn:∀ l:List Int,ints? (iv l)=some l
 | []=>rfl
 | x :: l=>by
  show (ints? (iv l)).map (x :: ·)=_
  rw [Pn l]; rfl
theorem Acs {σ:AS} {a b:List Int}:σ.seqEq (iv a) (iv b)=some (decide (a=b)):=by
 unfold AS.seqEq
 by_cases h:(iv a).length≠(iv b).length
 ·rw [if_pos h,decide_eq_false]
  intro g; subst g; exact h rfl
 ·rw [if_neg h,Pn,Pn]
noncomputable def Iu:List Int→List Int
 | []=>[]
 | g :: l=>(g :: l).filter fun n=>!decide (n.fmod g=0)
noncomputable def Amm (l:List Int):Prop:=∀ g r,l=g :: r→g≠0
theorem Ae6 {σ:AS} {x:AVal} {xs:List AVal} (h:σ.lst x=some xs) (k:Nat):σ.its x k=some xs[k]?:=by
 cases x <;> first | (exact nomatch (show (none:Option (List AVal))=some xs from h)) | (cases (show some _=some xs from h); rfl) | (show (σ.lst _).map _=_; rw [h]; rfl)
theorem Mx {σ:AS} {x:AVal} {xs:List AVal} (h:σ.lst x=some xs) (n:Int):σ.item x (.int n)=Hh xs n:=by
 have e:σ.item x (.int n)=(σ.lst x).bind fun xs=>Hh xs n:=by
  cases x with
  | tup ys=>cases h
  | _=>rfl
 rw [e,h]; rfl
theorem Aoh {w:Ws} {x:AVal} {l:List Int} (hx:(toA w).lst x=some (iv l)) (hh:Amm l) (hl:l.length < 900):G8 [x] (toA w)=some (.flist (iv (Iu l)),toA w):=by
 apply Bv rfl
 unfold J4
 apply A8
 apply B7
 apply D8
 ·exact Ac rfl
 ·cases l with
  | nil=>exact Acp (Ae6 hx 0)
  | cons g r =>
   have hg:=hh g r rfl
   have h:=Hi (v:=x) (xs:=iv (g :: r)) (nm := "number") (σ:=toA w) (bt:=Bs cNe (Fv K5 (Ad "number") (Bg (Ad "got") (An (.int 0)))) (An (.int 0))) (el:=Ad "number") (P:=fun m=>m.lookup "got" = some x)
    (b:=fun y=>match y with | .int n=>!decide (n.fmod g=0) | _=>false) (e:=fun y=>y) (fun k=>Ae6 hx k) (fun m y h=>(Cq (by decide)).trans h)
    (fun y hy m hm=>by
     obtain ⟨n,_,rfl⟩:=List.mem_map.mp hy
     apply A4
     ·apply H0
      ·exact Ac Bi
      ·apply Ax
       ·exact Ac ((Cq (by decide)).trans hm)
       ·exact Ah
       ·exact (Mx hx 0).trans rfl
      ·exact if_neg hg
     ·exact Ah
     ·exact Ajq) (fun y hy m hm J=>Ac Bi) 1000 0 [] (Gg (Dc ["got"] [x]) ["got"]) (by rw [List.length_map]; lia) (Nat.zero_le _) rfl
   rw [h]
   refine congrArg (fun z=>some (AVal.flist z,toA w)) ?_
   rw [List.nil_append,List.drop_zero,List.map_id',List.filter_map]
   rfl
noncomputable def Mv:List (List Int)→List Int→List (List Int)→Bool
 | _,ahead,[]=>decide (ahead.length < 2)
 | [],_,_ :: _=>false
 | row :: rows,ahead,got :: rest=>decide (got=row.take got.length) && decide (((ahead.length:Int) - got.length)∈[(0:Int),1]) && Mv rows (Iu got) rest
theorem Ah9 {σ:AS} {n:Nat} (k:Nat):σ.its (.rng 0 n) k=some ((List.range n).map fun (i:Nat)=>AVal.int (i:Int))[k]?:=by
 show some (if (0:Int) + k < n then some (AVal.int (0 + k)) else none)=_
 rw [List.getElem?_map]
 by_cases h:k < n
 ·rw [if_pos (by lia),List.getElem?_range h,Int.zero_add]; rfl
 ·rw [if_neg (by lia),List.getElem?_eq_none (by rw [List.length_range]; lia)]; rfl
set_option tactic.hygienic true in
theorem Ame {w:Ws} {truth gots:List (List Int)} {told:List Int} (hsn:w.sn=gots.length) (hns:w.ns=gots.length) (hgl:gots.length < 900) (ht:w.told=iv told) (hgot:∀ s l,gots[s]?=some l→(w.S s).got=iv l∧Amm l∧l.length < 900) (htr:w.truth=truth.map fun r=>.flist (iv r)) (h:Mv truth told gots=true) :
  Fm [.id .mill] (toA w)=some (.bool true,toA w):=by
 have step:∀ i x,((List.range gots.length).map fun (i:Nat)=>AVal.int (i:Int))[i]?=some x→∀ m σ,(σ=toA w∧m.lookup "mill" = some (.id .mill)∧∃ a al,m.lookup "ahead" = some a∧(toA w).lst a=some (iv al)∧Mv (truth.drop i) al (gots.drop i)=true) →
   ∃ m' σ',(Am (Bb "got" (Bg (Bg (Bg (Ad "mill") (An (.str "stages"))) (Ad "spot")) (An (.str "got")))) (Am (sIf (bOr (Bs (K2 fun a b=>decide (a ≥ b)) (Ad "spot") (Az F7 (Af (Bg (Ad "mill") (An (.str "truth"))) Ap))) (bOr (Bs cNe (Ad "got") (Aez (Bg (Bg (Ad "mill") (An (.str "truth"))) (Ad "spot")) (Az F7 (Af (Ad "got") Ap)))) (Cp false))) (Am (C4 (An (.bool false))) Aq) Aq) (Am (sIf (Bs Ty (Fv Agg (Az F7 (Af (Ad "ahead") Ap)) (Az F7 (Af (Ad "got") Ap))) (Mg (Af (An (.int 0)) (Af (An (.int 1)) Ap)))) (Am (C4 (An (.bool false))) Aq) Aq) (Am (Bb "ahead" (Az G8 (Af (Ad "got") Ap))) Aq)))) (Bd m "spot" x) σ=some (.next,m',σ') ∧
    (σ'=toA w∧m'.lookup "mill" = some (.id .mill)∧∃ a al,m'.lookup "ahead" = some a∧(toA w).lst a=some (iv al)∧Mv (truth.drop (i + 1)) al (gots.drop (i + 1))=true):=by
  intro i x hx m σ ⟨hσ,hm,a,al,ha,hal,hrow⟩
  subst hσ
  have hi:i < gots.length:=by
   obtain ⟨h,_⟩:=List.getElem?_eq_some_iff.mp hx
   rw [List.length_map,List.length_range] at h; exact h
  rw [List.getElem?_map,List.getElem?_range hi] at hx
  cases hx
  have hgd:gots.drop i=gots[i] :: gots.drop (i + 1):=List.drop_eq_getElem_cons hi
  obtain ⟨hS,hh,hlen⟩:=hgot i gots[i] (List.getElem?_eq_getElem hi)
  rw [hgd] at hrow
  by_cases hti:i < truth.length
  case neg=>rw [List.drop_eq_nil_of_le (by lia)] at hrow; cases hrow
  have htd:truth.drop i=truth[i] :: truth.drop (i + 1):=List.drop_eq_getElem_cons hti
  rw [htd] at hrow
  unfold Mv at hrow
  simp only [Bool.and_eq_true,decide_eq_true_eq] at hrow
  obtain ⟨⟨hr1,hr2⟩,hr3⟩:=hrow
  have hgl1:(toA w).lst (.id (.got i))=some (iv gots[i]):=by rw [← hS]; exact Lg (Xy (by lia) rfl)
  have hlt:(toA w).lst (.id .rows)=some (truth.map fun r=>.flist (iv r)):=by rw [← htr]; rfl
  have k1:(Bd (Bd m "spot" (.int i)) "got" (.id (.got i))).lookup "mill" = some (.id .mill):=(Cq (by decide)).trans ((Cq (by decide)).trans hm)
  have k2:(Bd (Bd m "spot" (.int i)) "got" (.id (.got i))).lookup "spot" = some (.int i):=(Cq (by decide)).trans Bi
  have k3:(Bd (Bd m "spot" (.int i)) "got" (.id (.got i))).lookup "ahead" = some a:=(Cq (by decide)).trans ((Cq (by decide)).trans ha)
  have glen:F7 [.id (.got i)] (toA w)=some (.int (iv gots[i]).length,toA w):=by
   show ((toA w).lst (.id (.got i))).map _=_
   rw [hgl1]; rfl
  have tlen:F7 [.id .rows] (toA w)=some (.int (truth.map fun r=>AVal.flist (iv r)).length,toA w):=by
   unfold F7
   dsimp only
   rw [hlt]; rfl
  have alen:F7 [a] (toA w)=some (.int (iv al).length,toA w):=by
   show ((toA w).lst a).map _=_
   rw [hal]; rfl
  refine ⟨Bd (Bd (Bd m "spot" (.int i)) "got" (.id (.got i))) "ahead" (.flist (iv (Iu gots[i]))),toA w,?_,rfl,(Cq (by decide)).trans k1,_,Iu gots[i],Bi,rfl,hr3⟩
  apply Ak
  ·apply A7
   apply Ax
   ·apply Ax
    ·exact Ax (Ac ((Cq (by decide)).trans hm)) Ah rfl
    ·exact Ac Bi
    ·exact G1 (by lia) (by lia)
   ·exact Ah
   ·exact T5 (by lia) rfl
  apply Ak
  ·apply Br
   ·apply Ku
    ·apply A4
     ·exact Ac k2
     ·exact Aw (Ae (Ax (Ac k1) Ah rfl) Au) tlen
     ·exact rfl
    ·apply Dj
     ·apply decide_eq_false
      rw [List.length_map]; lia
     apply Ku
     ·apply A4
      ·exact Ac Bi
      ·unfold Aez
       have e1:Bg (Bg (Ad "mill") (An (.str "truth"))) (Ad "spot") (Bd (Bd m "spot" (.int i)) "got" (.id (.got i))) (toA w)=some (.flist (iv truth[i]),toA w):=by
        apply Ax
        ·exact Ax (Ac k1) Ah rfl
        ·exact Ac k2
        ·rw [Mx hlt]
         unfold Hh
         rw [if_pos (by lia),if_pos (by have:=hgl; lia),Int.toNat_natCast,List.getElem?_map,List.getElem?_eq_getElem hti]; rfl
       have e2:Az F7 (Af (Ad "got") Ap) (Bd (Bd m "spot" (.int i)) "got" (.id (.got i))) (toA w)=some (.int (iv gots[i]).length,toA w):=Aw (Ae (Ac Bi) Au) glen
       rw [e1,Option.bind_some,e2,Option.bind_some]
       dsimp only
       rw [if_pos (by lia)]
       rfl
      ·show ((toA w).aeq (.id (.got i)) (.flist ((iv truth[i]).take ((iv gots[i]).length:Int).toNat))).map _=some false
       have e3:(iv truth[i]).take ((iv gots[i]).length:Int).toNat=iv gots[i]:=by
        rw [Int.toNat_natCast,List.length_map,← List.map_take,← hr1]
       rw [e3]
       show (((toA w).lst (.id (.got i))).bind fun xs=>((toA w).lst (.flist (iv gots[i]))).bind fun ys=>(toA w).seqEq xs ys).map _=_
       rw [hgl1,Option.bind_some]
       show ((toA w).seqEq (iv gots[i]) (iv gots[i])).map _=_
       rw [Acs,decide_eq_true rfl]; rfl
     ·exact Dj rfl rfl
   exact Ar
  apply Ak
  ·apply Br
   ·apply A4
    ·apply H0
     ·exact Aw (Ae (Ac k3) Au) alen
     ·exact Aw (Ae (Ac Bi) Au) glen
     ·exact rfl
    ·exact Afk (Ae Ah (Ae Ah Au)) (by decide)
    ·show some (!decide ((((iv al).length:Int) - ((iv gots[i]).length:Int))∈[(0:Int),1]))=some false
     rw [List.length_map,List.length_map,decide_eq_true hr2]; rfl
   exact Ar
  apply Ak
  ·exact A7 (Aw (Ae (Ac Bi) Au) (Aoh hgl1 hh hlen))
  exact Ar
 obtain ⟨m',σ',e1,e2,e3,a,al,ha,hal,hrow⟩:=Jd (v:=.rng 0 gots.length) (xs:=(List.range gots.length).map fun (i:Nat)=>AVal.int (i:Int)) (nm := "spot") (I:=fun i m σ=>σ=toA w∧m.lookup "mill" = some (.id .mill)∧∃ a al,m.lookup "ahead" = some a∧(toA w).lst a=some (iv al)∧Mv (truth.drop i) al (gots.drop i)=true)
  (fun k m σ h=>by rw [h.1]; exact Ah9 k) step 1000 0 (Bd (Dc ["mill"] [.id .mill]) "ahead" (.id .told)) (toA w) (by rw [List.length_map,List.length_range]; lia) (Nat.zero_le _) ⟨rfl,rfl,.id .told,told,rfl,by rw [← ht]; rfl,h⟩
 subst e2
 rw [List.length_map,List.length_range,List.drop_length] at hrow
 have hlt2:al.length < 2:=by
  cases hd:truth.drop gots.length <;> rw [hd] at hrow <;> simpa [Mv] using hrow
 have alen:F7 [a] (toA w)=some (.int (iv al).length,toA w):=by
  show ((toA w).lst a).map _=_
  rw [hal]; rfl
 apply Bv rfl
 unfold Lr
 apply Ak
 ·exact A7 (Ax (Ac rfl) Ah rfl)
 apply Ak
 ·apply D4
  ·apply Aw
   ·apply Ae
    ·apply Aw
     ·exact Ae (Ax (Ac rfl) Ah rfl) Au
     ·exact (show F7 [.id .stages] (toA w)=some (.int (sl w.sn).length,toA w) from rfl)
    ·exact Au
   ·rw [Vf,hsn]
    show (if okR (gots.length:Int)=true then some (AVal.rng 0 gots.length,toA w) else none)=_
    exact if_pos (by simp [okR]; lia)
  ·exact e1
 apply A8
 apply B7
 apply Gv
 ·exact Aw (Ae (Ac ha) Au) alen
 ·exact Ah
 ·show some (decide (((iv al).length:Int) < 2))=some true
  rw [List.length_map]
  exact congrArg some (decide_eq_true (by lia))
inductive Ph where
 | RI | B | A | RA | D | RM | ACT | C | M | RS | X | H | W
 deriving DecidableEq
structure Cst where
 told:List Int
 left:List Int
 phs:List Ph
 gots:List (List Int)
noncomputable def Cst.ph (c:Cst) (k:Nat):Ph:=c.phs.getD k .X
noncomputable def Cst.row (c:Cst) (k:Nat):List Int:=if k=0 then c.told else c.gots.getD (k - 1) []
noncomputable def Cst.hand (c:Cst) (k:Nat):Int:=(c.row k).getLastD 0
structure Conf where
 nst:Bool
 pat:Bool
 slow:Nat
 truth:List AVal
 ws:List Int
structure PV where
 t:TS
 q:Option AVal
 sv:List AVal
 ms:List AVal
 M:Option MS
 nx:AVal
 hd:AVal
 ds:String
noncomputable def view (w:Ws) (k:Nat):PV:=⟨w.T k,w.q k,w.sv k,w.ms k,w.M k,if k=0 then w.snext else (w.S (k - 1)).next,if k=0 then w.shand else (w.S (k - 1)).hand,if k=0 then w.sdoes else (w.S (k - 1)).does⟩
noncomputable abbrev GM:=Nat→Option AObj
noncomputable def Ql (G:GM) (kk i:Nat) (x:Int):Prop:=∃ co,G kk=some (D2 co)∧co.c=i∧co.vals=.flist [.int x]
noncomputable def Al2 (cf:Conf) (now:Int) (v:PV):Ph→Prop
 | .RI=>v.t.st = "ready" ∧ v.hd=.none∧v.ds = "make"
 | .B=>v.t.st = "ready" ∧ v.ds = "begin"
 | .A=>v.t.st = "accepting" ∧ v.t.op=Me∧v.ds = "wait"
 | .RA=>v.t.st = "ready" ∧ v.ds = "wait"
 | .D=>v.t.st = "delayed" ∧ v.ds = "make"
 | .RM=>v.t.st = "ready" ∧ v.ds = "make"
 | .ACT=>v.t.st = "activating" ∧ v.ds = "make"
 | .C=>v.t.st = "calling" ∧ v.ds = "send"
 | .M=>v.t.st = "meeting" ∧ v.ds = "send"
 | .RS=>v.t.st = "ready" ∧ v.ds = "send"
 | .X=>v.t.st = "completed" ∨ (cf.nst=false∧v.t.st = "done")
 | .H=>v.t.st = "ready" ∧ (v.nx=.none→v.ds = "make")
 | .W=>v.t.st = "ready" ∧ v.ds = "wait" ∧ v.hd=.none
noncomputable def Ah5:Ph→Bool
 | .D=>true
 | .RM=>true
 | .ACT=>true
 | .C=>true
 | .M=>true
 | .RS=>true
 | .H=>true
 | _=>false
structure Proc (cf:Conf) (G:GM) (now:Int) (n k:Nat) (pp p:Ph) (hp h:Int) (v:PV):Prop where
 st:Al2 cf now v p
 hd:Ah5 p=true→v.hd=.int h
 rsd:v.t.rsd=.none
 wake:v.t.wake=if p=.D then .int (now + 1) else .none
 act:v.t.act=if p=.B∧cf.pat=true then .id (.task (k - 1)) else .none
 pend:v.t.pend=if p=.ACT then 1 else 0
 fail:v.t.failed=false
 sv0:p≠.RA→v.sv=[]
 sv1:p=.RA→∃ kk,v.sv=[.id (.tmp kk)]∧v.t.ans=.tup [.str "accept",.int 0,.id (.tmp kk)]∧Ql G kk (k - 1) hp
 q0:(k=0∨pp≠.C)→v.q=none
 q1:k≠0→pp=.C→∃ l kk,v.q=some (.id (.tmp l))∧G l=some (.list [.id (.tmp kk)])∧Ql G kk (k - 1) hp
 ms0:¬(cf.nst=true∧k + 1 < n)→v.ms=[]∧v.M=none
 ms1:cf.nst=true→k + 1 < n→v.ms=[.id (.master k)]∧∃ num,v.M=some ⟨num,decide (p=.X),[.id (.task (k + 1))]⟩
 nx:v.nx=if k + 1 < n then .id (.task (k + 1)) else .none
 src:k=0→p≠.B∧p≠.A∧p≠.RA∧p≠.D∧p≠.W
 stg:k≠0→p≠.RI∧p≠.X
 dly:p=.D→k=cf.slow + 1
 ra:k≠0→p=.RA→pp=.M
structure Frm (cf:Conf) (N:Nat) (w:Ws):Prop where
 n:w.n=N
 tn:w.tn=N
 ns:w.ns + 1=N
 sn:w.sn + 1=N
 lt:N < 40
 nst:w.nested=cf.nst
 pat:w.pat=cf.pat
 slow:w.slow=(cf.slow:Int)
 truth:w.truth=cf.truth
 W:w.wishes=.flist (cf.ws.map .int)
 libE:w.lib.ended=true
 lib0:cf.nst=false→w.lib.deps=tl N
 lib1:cf.nst=true→w.lib.deps=[.id (.task 0)]
 crew:w.crew=(List.range w.ns).map fun i=>.int (w.T (i + 1)).num
 inc:∀ i j,i < j→j < N→(w.T i).num < (w.T j).num
 le:∀ i,i < N→(w.T i).num≤w.nums
 mrest:∀ k,N≤k→w.M k=none
 fresh:∀ j,w.gn≤j→w.G j=none
structure Rep (cf:Conf) (c:Cst) (w:Ws):Prop where
 fr:Frm cf c.phs.length w
 len:c.gots.length + 1=c.phs.length
 told:w.told=iv c.told
 left:w.left=iv c.left
 got:∀ s,s < c.gots.length→(w.S s).got=iv (c.gots.getD s [])
 proc:∀ k,k < c.phs.length→Proc cf w.G w.now c.phs.length k (c.ph (k - 1)) (c.ph k) (c.hand (k - 1)) (c.hand k) (view w k)
 cal:w.rests=w.now + if c.phs.getD (cf.slow + 1) .X=.D then 1 else 0
noncomputable def GOk (G G':GM):Prop:=∀ j o,G j=some o→G' j=some o∨∃ co co',o=D2 co∧G' j=some (D2 co')∧co'.c=co.c∧co'.vals=co.vals
theorem GOk.refl (G:GM):GOk G G:=fun J J h=>.inl h
theorem GOk.call {G G':GM} (h:GOk G G') {kk i:Nat} {x:Int} (c:Ql G kk i x):Ql G' kk i x:=by
 obtain ⟨co,h1,h2,h3⟩:=c
 rcases h kk _ h1 with g | ⟨a,b,e,g,g2,g3⟩
 ·exact ⟨co,g,h2,h3⟩
 ·have e2:cf co=cf a:=by injection e
  have hco:co=a:=by
   cases co; cases a
   simp only [cf,List.cons.injEq,Prod.mk.injEq,AVal.int.injEq,AVal.id.injEq,Id.task.injEq,AVal.str.injEq,true_and,and_true] at e2
   simp_all
  subst hco
  exact ⟨b,g,g2.trans h2,g3.trans h3⟩
theorem GOk.list {G G':GM} (h:GOk G G') {l:Nat} {xs:List AVal} (c:G l=some (.list xs)):G' l=some (.list xs):=by
 rcases h l _ c with g | ⟨a,b,e,_⟩
 ·exact g
 ·cases e
theorem GOk.trans {G G' G'':GM} (h:GOk G G') (h':GOk G' G''):GOk G G'':=fun j o e=>by
 rcases h j o e with g | ⟨a,b,e1,g,g2,g3⟩
 ·exact h' j o g
 ·rcases h' j _ g with f | ⟨a',b',e2,f,f2,f3⟩
  ·exact .inr ⟨a,b,e1,f,g2,g3⟩
  ·have e3:cf b=cf a':=by injection e2
   have hba:b=a':=by
    cases b; cases a'
    simp only [cf,List.cons.injEq,Prod.mk.injEq,AVal.int.injEq,AVal.id.injEq,Id.task.injEq,AVal.str.injEq,true_and,and_true] at e3
    simp_all
   subst hba
   exact .inr ⟨a,b',e1,f,f2.trans g2,f3.trans g3⟩
theorem GOk.new {G:GM} {j:Nat} {o:AObj} (h:G j=none):GOk G (updN G j (some o)):=fun i x e=>by
 have:i≠j:=fun z=>by rw [z,h] at e; cases e
 exact .inl ((Av _ _ this).trans e)
theorem GOk.set {G:GM} {j:Nat} {co co':CO} (h:G j=some (D2 co)) (h1:co'.c=co.c) (h2:co'.vals=co.vals):GOk G (updN G j (some (D2 co'))):=fun i x e=>by
 by_cases hi:i=j
 ·subst hi
  rw [h] at e; cases e
  exact .inr ⟨co,co',rfl,Al _ _ _,h1,h2⟩
 ·exact .inl ((Av _ _ hi).trans e)
noncomputable def Od (k:Nat) (pp pp':Ph) (hp hp':Int):Prop:=k=0∨(((pp=.C∨pp=.M)→pp'=pp∧hp'=hp)∧(pp'=.C→pp=.C))
theorem Proc.mono {cf:Conf} {G G':GM} {now:Int} {n k:Nat} {pp pp' p:Ph} {hp hp' h:Int} {v:PV} (P:Proc cf G now n k pp p hp h v) (g:GOk G G') (c:Od k pp pp' hp hp'):Proc cf G' now n k pp' p hp' h v :=
 ⟨P.st,P.hd,P.rsd,P.wake,P.act,P.pend,P.fail,P.sv0,fun e=>by
   obtain ⟨kk,a,b,d⟩:=P.sv1 e
   rcases c with rfl | ⟨c1,_⟩
   ·exact absurd e (P.src rfl).2.2.1
   ·by_cases hk:k=0
    ·exact absurd e (P.src hk).2.2.1
    ·rw [(c1 (.inr (P.ra hk e))).2]; exact ⟨kk,a,b,g.call d⟩,
  fun e=>P.q0 (e.elim .inl fun e=>c.elim .inl fun f=>.inr fun z=>e ((f.1 (.inl z)).1.trans z)),
  fun e f=>by
   rcases c with z | ⟨c1,c2⟩
   ·exact absurd z e
   ·have hc:=c2 f
    obtain ⟨l,kk,a,b,d⟩:=P.q1 e hc
    rw [(c1 (.inl hc)).2]
    exact ⟨l,kk,a,g.list b,g.call d⟩,P.ms0,P.ms1,P.nx,P.src,P.stg,P.dly,fun e f=>c.elim (fun z=>absurd z e) fun c=>((c.1 (.inr (P.ra e f))).1).trans (P.ra e f)⟩
noncomputable def E8 (cf:Conf) (w:Ws) (c:Cst) (k:Nat):Cl:=match c.ph k with
 | .A=>.acc
 | .X=>if (w.T k).st = "completed" then .comp else .done
 | _=>.act
theorem Rep.arr {cf:Conf} {c:Cst} {w:Ws} (R:Rep cf c w) (h0:0 < c.phs.length):Arr w cf.nst (E8 cf w c):=by
 have F:=R.fr
 refine ⟨F.tn.trans F.n.symm,by rw [F.n]; exact h0,by rw [F.n]; exact F.lt,fun k hk=>?_,F.libE,fun h=>by rw [F.n]; exact F.lib0 h,F.lib1,fun k hk h=>?_,fun k hk h=>?_,F.fresh⟩
 ·rw [F.n] at hk
  have P:=(R.proc k hk).st
  unfold E8
  cases hp:c.ph k <;> rw [hp] at P
  case A=>exact ⟨P.1,P.2.1⟩
  case X =>
   have P:(w.T k).st = "completed" ∨ (cf.nst=false∧(w.T k).st = "done"):=P
   dsimp only
   split
   ·assumption
   ·rcases P with g | g
    ·contradiction
    ·exact g.2
  all_goals
   have h:(w.T k).st=_:=P.1
   refine ⟨?_,?_,?_,?_,?_⟩ <;> rw [h] <;> decide
 ·rw [F.n] at hk h
  have:=((R.proc k hk).ms0 fun z=>by rcases h with h | h <;> simp_all <;> lia).1
  exact this
 ·rw [F.n] at h
  obtain ⟨g1,num,g2⟩:=(R.proc k (by lia)).ms1 hk h
  refine ⟨g1,_,g2,rfl,?_⟩
  unfold E8
  cases hp:c.ph k <;> first | rfl | (dsimp only; split <;> rfl)
section
theorem Frm.same {cf:Conf} {N:Nat} {w w':Ws} (F:Frm cf N w) (e1:w'.n=w.n) (e2:w'.tn=w.tn) (e3:w'.ns=w.ns) (e4:w'.sn=w.sn) (e5:w'.nested=w.nested) (e6:w'.pat=w.pat) (e7:w'.slow=w.slow) (e8:w'.truth=w.truth) (e9:w'.wishes=w.wishes) (e10:w'.lib=w.lib) (e11:w'.crew=w.crew)
  (hT:∀ k,(w'.T k).num=(w.T k).num) (hn:w.nums≤w'.nums) (hM:∀ k,N≤k→w'.M k=none) (hf:∀ j,w'.gn≤j→w'.G j=none):Frm cf N w' :=
 ⟨e1.trans F.n,e2.trans F.tn,by rw [e3]; exact F.ns,by rw [e4]; exact F.sn,F.lt,e5.trans F.nst,e6.trans F.pat,e7.trans F.slow,e8.trans F.truth,e9.trans F.W,by rw [e10]; exact F.libE,fun h=>by rw [e10]; exact F.lib0 h,fun h=>by rw [e10]; exact F.lib1 h,
  by rw [e11,F.crew,e3]; exact List.map_congr_left fun k J=>by rw [hT],fun i j a b=>by rw [hT,hT]; exact F.inc i j a b,fun i a=>by rw [hT]; exact Int.le_trans (F.le i a) hn,hM,hf⟩
theorem E2 {T:Nat→TS} {i:Nat} {t:TS} (h:t.num=(T i).num):∀ k,(updN T i t k).num=(T k).num:=fun k=>by
 by_cases hk:k=i
 ·subst hk; rw [Al,h]
 ·rw [Av _ _ hk]
theorem Abv {l:List Ph} {i j:Nat} {x d:Ph} (h:i < l.length):(l.set i x).getD j d=if j=i then x else l.getD j d:=by
 rw [List.getD_eq_getElem?_getD,List.getD_eq_getElem?_getD,List.getElem?_set]
 by_cases hij:i=j
 ·subst hij; rw [if_pos rfl,if_pos h,if_pos rfl]; rfl
 ·rw [if_neg hij,if_neg (Ne.symm hij)]
noncomputable def Cst.sp (c:Cst) (k:Nat) (p:Ph):Cst:={ c with phs:=c.phs.set k p }
theorem Bu {c:Cst} {k:Nat} {p:Ph} (h:k < c.phs.length) (j:Nat):(c.sp k p).ph j=if j=k then p else c.ph j:=Abv h
theorem Cu {c:Cst} {k:Nat} {p:Ph}:(c.sp k p).phs.length=c.phs.length:=List.length_set
theorem He {c:Cst} {k:Nat} {p:Ph} (j:Nat):(c.sp k p).hand j=c.hand j:=rfl
noncomputable def dOf (cf:Conf) (c:Cst):Int:=if c.phs.getD (cf.slow + 1) .X=.D then 1 else 0
theorem F6 {cf:Conf} {c:Cst} {k:Nat} {p:Ph} (h:k < c.phs.length) (h1:p≠.D) (h2:c.ph k≠.D):dOf cf (c.sp k p)=dOf cf c:=by
 unfold dOf
 have:=Bu (c:=c) (p:=p) h (cf.slow + 1)
 unfold Cst.ph at this h2
 rw [this]
 by_cases hk:cf.slow + 1=k
 ·subst hk; rw [if_pos rfl,if_neg h1,if_neg h2]
 ·rw [if_neg hk]
theorem Proc.now {cf:Conf} {G:GM} {now now':Int} {n k:Nat} {pp p:Ph} {hp h:Int} {v:PV} (P:Proc cf G now n k pp p hp h v) (hd:p≠.D):Proc cf G now' n k pp p hp h v :=
 ⟨P.st,P.hd,P.rsd,by have:=P.wake; rw [if_neg hd] at this; rw [if_neg hd]; exact this,P.act,P.pend,P.fail,P.sv0,P.sv1,P.q0,P.q1,P.ms0,P.ms1,P.nx,P.src,P.stg,P.dly,P.ra⟩
theorem Rep.step {cf:Conf} {c c':Cst} {w w':Ws} (R:Rep cf c w) (hn:c'.phs.length=c.phs.length) (hl:c'.gots.length=c.gots.length) (fr:Frm cf c.phs.length w') (told:w'.told=iv c'.told) (left:w'.left=iv c'.left) (got:∀ s,s < c.gots.length→(w'.S s).got=iv (c'.gots.getD s []))
  (S:Nat→Prop) (G:GOk w.G w'.G) (hnow:w'.now=w.now∨∀ k,k < c.phs.length→¬S k→c.ph k≠.D) (cal:w'.rests=w'.now + dOf cf c')
  (hsame:∀ k,k < c.phs.length→¬S k→view w' k=view w k∧c'.ph k=c.ph k∧c'.hand k=c.hand k∧Od k (c.ph (k - 1)) (c'.ph (k - 1)) (c.hand (k - 1)) (c'.hand (k - 1)))
  (hS:∀ k,k < c.phs.length→S k→Proc cf w'.G w'.now c.phs.length k (c'.ph (k - 1)) (c'.ph k) (c'.hand (k - 1)) (c'.hand k) (view w' k)):Rep cf c' w':=by
 refine ⟨by rw [hn]; exact fr,by rw [hl,hn]; exact R.len,told,left,fun s hs=>got s (by rw [← hl]; exact hs),fun k hk=>?_,cal⟩
 rw [hn] at hk ⊢
 by_cases h:S k
 ·exact hS k hk h
 ·obtain ⟨e1,e2,e3,e4⟩:=hsame k hk h
  rw [e1,e2,e3]
  have P:=(R.proc k hk).mono G e4
  rcases hnow with hnow | hnow
  ·rw [hnow]; exact P
  ·exact P.now (hnow k hk h)
theorem Gi {k:Nat} {p p':Ph} {h h':Int} (e:p'=p) (f:h'=h):Od k p p' h h':=.inr ⟨fun J=>⟨e,f⟩,fun g=>e ▸ g⟩
theorem Nw {k:Nat} {p p':Ph} {h h':Int} (h1:p≠.C) (h2:p≠.M) (h3:p'≠.C):Od k p p' h h':=.inr ⟨fun g=>(g.elim h1 h2).elim,fun g=>absurd g h3⟩
theorem Lk {c:Cst} {k:Nat} {p:Ph} (hk:k < c.phs.length) (h1:c.ph k≠.C) (h2:c.ph k≠.M) (h3:p≠.C) (j:Nat):Od j (c.ph (j - 1)) ((c.sp k p).ph (j - 1)) (c.hand (j - 1)) ((c.sp k p).hand (j - 1)):=by
 rw [Bu hk]
 by_cases h:j - 1=k
 ·rw [if_pos h,h]; exact Nw h1 h2 h3
 ·rw [if_neg h]; exact Gi rfl rfl
theorem Proc.own {cf:Conf} {G G':GM} {now now':Int} {n k:Nat} {pp pp' p p':Ph} {hp hp' h h':Int} {v v':PV} (P:Proc cf G now n k pp p hp h v) (g:GOk G G') (hpp:k=0∨((pp'=.C ↔ pp=.C)∧(pp=.C→hp'=hp)))
  (st:Al2 cf now' v' p') (hd:Ah5 p'=true→v'.hd=.int h') (rsd:v'.t.rsd=.none) (wake:v'.t.wake=if p'=.D then .int (now' + 1) else .none) (act:v'.t.act=if p'=.B∧cf.pat=true then .id (.task (k - 1)) else .none) (pend:v'.t.pend=if p'=.ACT then 1 else 0) (fail:v'.t.failed=false) (sv:v'.sv=[])
  (hq:v'.q=v.q) (hms:v'.ms=v.ms) (hM:v'.M=v.M) (hnx:v'.nx=v.nx) (hx:p≠.X) (hx':p'≠.X) (hra:p'≠.RA) (src:k=0→p'≠.B∧p'≠.A∧p'≠.RA∧p'≠.D∧p'≠.W) (stg:k≠0→p'≠.RI) (dly:p'=.D→k=cf.slow + 1):Proc cf G' now' n k pp' p' hp' h' v' :=
 ⟨st,hd,rsd,wake,act,pend,fail,fun J=>sv,fun e=>absurd e hra,fun e=>by
   rw [hq]
   refine P.q0 (e.elim .inl fun e=>hpp.elim .inl fun f=>.inr fun z=>e (f.1.mpr z)),
  fun e f=>by
   rcases hpp with z | ⟨c1,c2⟩
   ·exact absurd z e
   ·have hc:=c1.mp f
    obtain ⟨l,kk,a,b,d⟩:=P.q1 e hc
    rw [hq,c2 hc]
    exact ⟨l,kk,a,g.list b,g.call d⟩,fun e=>by rw [hms,hM]; exact P.ms0 e,fun e f=>by
   obtain ⟨a,num,b⟩:=P.ms1 e f
   rw [hms,hM]
   exact ⟨a,num,by rw [b,decide_eq_false hx,decide_eq_false hx']⟩,by rw [hnx]; exact P.nx,src,fun e=>⟨stg e,hx'⟩,dly,fun J e=>absurd e hra⟩
theorem Op {c:Cst} {k:Nat} {p:Ph} (hk:k < c.phs.length):k=0∨(((c.sp k p).ph (k - 1)=.C ↔ c.ph (k - 1)=.C)∧(c.ph (k - 1)=.C→(c.sp k p).hand (k - 1)=c.hand (k - 1))):=by
 by_cases h:k=0
 ·exact .inl h
 ·right
  rw [Bu hk,if_neg (by lia)]
  exact ⟨Iff.rfl,fun J=>rfl⟩
section
variable {cf:Conf} {c:Cst} {w:Ws} (R:Rep cf c w)
include R
theorem Rep.hH {k:Nat} (hk:k < c.phs.length) (hp:c.ph k=.RM):Rep cf (c.sp k .H) w:=by
 refine R.step Cu rfl R.fr R.told R.left R.got (fun j=>j=k) (GOk.refl _) (.inl rfl) ?_ (fun j hj hS=>⟨rfl,by rw [Bu hk,if_neg hS],rfl,Lk hk (by rw [hp]; decide) (by rw [hp]; decide) (by decide) j⟩) fun j hj hS=>?_
 ·rw [F6 hk (by decide) (by rw [hp]; decide)]; exact R.cal
 ·subst hS
  have P:=R.proc j hj
  rw [hp] at P
  rw [show (c.sp j .H).ph j=.H by rw [Bu hk,if_pos rfl]]
  exact P.own (GOk.refl _) (Op hk) ⟨P.st.1,fun J=>P.st.2⟩ P.hd P.rsd P.wake P.act P.pend P.fail (P.sv0 (by decide)) rfl rfl rfl rfl (by decide) (by decide) (by decide) (fun J=>by decide) (fun J=>by decide) (fun h=>by cases h)
end
end
section
theorem Yd {l:List Int} {x:Int}:(l++[x]).getLastD 0=x:=by simp
theorem U4 {c:Cst} {a:Nat} {p q:Ph} (ha:a + 1 < c.phs.length) (h1:c.ph (a + 1)≠.C) (h2:c.ph (a + 1)≠.M) (h3:q≠.C) {j:Nat} (hj1:j≠a) (hj2:j≠a + 1):Od j (c.ph (j - 1)) (((c.sp a p).sp (a + 1) q).ph (j - 1)) (c.hand (j - 1)) (((c.sp a p).sp (a + 1) q).hand (j - 1)):=by
 by_cases h0:j=0
 ·exact .inl h0
 rw [Bu (by rw [Cu]; exact ha),Bu (by lia)]
 by_cases h:j - 1=a + 1
 ·rw [if_pos h,h]; exact Nw h1 h2 h3
 ·rw [if_neg h,if_neg (by lia)]; exact Gi rfl rfl
section
variable {w:Ws} {i j s:Nat}
theorem vT {t:TS} (h:j≠i):view (w.setT i t) j=view w j:=by
 show (⟨updN w.T i t j,_,_,_,_,_,_,_⟩:PV)=_
 rw [Av _ _ h]; rfl
theorem vT' {t:TS}:view (w.setT i t) i={ view w i with t:=t }:=by
 show (⟨updN w.T i t i,_,_,_,_,_,_,_⟩:PV)=_
 rw [Al]; rfl
theorem vq {x:Option AVal} (h:j≠i):view (w.setq i x) j=view w j:=by
 show (⟨_,updN w.q i x j,_,_,_,_,_,_⟩:PV)=_
 rw [Av _ _ h]; rfl
theorem vq' {x:Option AVal}:view (w.setq i x) i={ view w i with q:=x }:=by
 show (⟨_,updN w.q i x i,_,_,_,_,_,_⟩:PV)=_
 rw [Al]; rfl
theorem vsv {x:List AVal} (h:j≠i):view (w.setsv i x) j=view w j:=by
 show (⟨_,_,updN w.sv i x j,_,_,_,_,_⟩:PV)=_
 rw [Av _ _ h]; rfl
theorem Apa {x:List AVal}:view (w.setsv i x) i={ view w i with sv:=x }:=by
 show (⟨_,_,updN w.sv i x i,_,_,_,_,_⟩:PV)=_
 rw [Al]; rfl
theorem vS {x:SS} (h:j≠s + 1):view (w.setS s x) j=view w j:=by
 show (⟨_,_,_,_,_,if j=0 then _ else (updN w.S s x (j - 1)).next,if j=0 then _ else (updN w.S s x (j - 1)).hand,if j=0 then _ else (updN w.S s x (j - 1)).does⟩:PV)=_
 by_cases h0:j=0
 ·subst h0; rfl
 ·have:j - 1≠s:=fun z=>h (by lia)
  rw [Av _ _ this]; rfl
theorem vS' {x:SS}:view (w.setS s x) (s + 1)={ view w (s + 1) with nx:=x.next,hd:=x.hand,ds:=x.does }:=by
 show (⟨_,_,_,_,_,(updN w.S s x s).next,(updN w.S s x s).hand,(updN w.S s x s).does⟩:PV)=_
 rw [Al]; rfl
theorem vG {x:AObj}:view (w.setG i x) j=view w j:=rfl
theorem Aor {x:SS} (h:x.got=(w.S s).got) (l:Nat):((w.setS s x).S l).got=(w.S l).got:=by
 show (updN w.S s x l).got=_
 by_cases hl:l=s
 ·subst hl; rw [Al,h]
 ·rw [Av _ _ hl]
end
noncomputable def Cst.tell (c:Cst) (x:Int) (xs:List Int):Cst:={ c with told:=c.told++[x],left:=xs }
section
variable {cf:Conf} {c:Cst} {w:Ws} (R:Rep cf c w)
include R
theorem Rep.tell (h0:0 < c.phs.length) {x:Int} {xs:List Int} (hl:c.left=x :: xs) (hp:c.ph 0=.RI∨(c.ph 0=.RS∧1 < c.phs.length)):Rep cf ((c.tell x xs).sp 0 .H) (w.tell (.int x) (iv xs)):=by
 have hne:c.ph 0≠.C∧c.ph 0≠.M∧c.ph 0≠.D∧c.ph 0≠.X:=by rcases hp with h | ⟨h,_⟩ <;> rw [h] <;> decide
 refine R.step Cu rfl (R.fr.same rfl rfl rfl rfl rfl rfl rfl rfl rfl rfl rfl (fun J=>rfl) (Int.le_refl _) R.fr.mrest R.fr.fresh) ?_ rfl R.got (fun j=>j=0) (GOk.refl _) (.inl rfl) ?_ (fun j hj hS=>⟨?_,by rw [Bu (by exact h0),if_neg hS]; rfl,?_,?_⟩) fun j hj hS=>?_
 ·show w.told++[.int x]=iv (c.told++[x])
  rw [R.told]; simp [iv]
 ·rw [F6 (c:=c.tell x xs) h0 (by decide) hne.2.2.1]; exact R.cal
 ·show (⟨_,_,_,_,_,if j=0 then _ else _,if j=0 then _ else _,if j=0 then _ else _⟩:PV)=⟨_,_,_,_,_,if j=0 then _ else _,if j=0 then _ else _,if j=0 then _ else _⟩
  simp only [if_neg hS]; rfl
 ·show Cst.hand _ j=_
  unfold Cst.hand Cst.row
  rw [if_neg hS,if_neg hS]; rfl
 ·by_cases h:j - 1=0
  ·rw [Bu (by exact h0),if_pos h,h]; exact Nw hne.1 hne.2.1 (by decide)
  ·rw [Bu (by exact h0),if_neg h]
   refine Gi rfl ?_
   show Cst.hand _ (j - 1)=_
   unfold Cst.hand Cst.row
   rw [if_neg h,if_neg h]; rfl
 ·subst hS
  have P:=R.proc 0 h0
  rw [show ((c.tell x xs).sp 0 .H).ph 0=.H by rw [Bu (by exact h0),if_pos rfl]]
  refine P.own (GOk.refl _) (.inl rfl) ⟨?_,fun hx=>?_⟩ (fun J=>?_) P.rsd ?_ ?_ ?_ P.fail (P.sv0 (P.src rfl).2.2.1) rfl rfl rfl rfl hne.2.2.2 (by decide) (by decide) (fun J=>by decide) (fun h=>absurd rfl h) (fun h=>by cases h)
  ·have:=P.st
   rcases hp with h | ⟨h,_⟩ <;> rw [h] at this <;> exact this.1
  ·have:=P.st
   rcases hp with h | ⟨h,hn⟩
   ·rw [h] at this; exact this.2.2
   ·have e:=P.nx
    rw [if_pos hn] at e
    have hx:(view w 0).nx=.none:=hx
    rw [hx] at e; cases e
  ·show (AVal.int x)=.int (Cst.hand _ 0)
   unfold Cst.hand Cst.row
   rw [if_pos rfl]
   show _=AVal.int ((c.told++[x]).getLastD 0)
   rw [Yd]
  ·have:=P.wake; rw [if_neg hne.2.2.1] at this; exact this
  ·have:=P.act; rw [if_neg (fun h=>(P.src rfl).1 h.1)] at this; exact this.trans (by simp)
  ·have:=P.pend; rw [if_neg (by rcases hp with h | ⟨h,_⟩ <;> rw [h] <;> decide)] at this; exact this.trans (by simp)
theorem Rep.rsW {s:Nat} (hk:s + 1 < c.phs.length) (hp:c.ph (s + 1)=.RS):Rep cf (c.sp (s + 1) .W) (w.setS s (((w.S s).s_does "wait").s_hand .none)):=by
 refine R.step Cu rfl (R.fr.same rfl rfl rfl rfl rfl rfl rfl rfl rfl rfl rfl (fun J=>rfl) (Int.le_refl _) R.fr.mrest R.fr.fresh) R.told R.left ?_ (fun j=>j=s + 1) (GOk.refl _) (.inl rfl) ?_ (fun j hj hS=>⟨?_,by rw [Bu hk,if_neg hS],rfl,Lk hk (by rw [hp]; decide) (by rw [hp]; decide) (by decide) j⟩) fun j hj hS=>?_
 ·intro i hi
  show (updN w.S s _ i).got=_
  by_cases h:i=s
  ·subst h; rw [Al]; exact R.got i hi
  ·rw [Av _ _ h]; exact R.got i hi
 ·rw [F6 hk (by decide) (by rw [hp]; decide)]; exact R.cal
 ·show (⟨_,_,_,_,_,if j=0 then _ else (updN w.S s _ (j - 1)).next,if j=0 then _ else (updN w.S s _ (j - 1)).hand,if j=0 then _ else (updN w.S s _ (j - 1)).does⟩:PV)=_
  by_cases h:j=0
  ·simp only [if_pos h]; unfold view; simp only [if_pos h]; rfl
  ·have:j - 1≠s:=fun z=>hS (by lia)
   rw [Av _ _ this]; rfl
 ·subst hS
  have P:=R.proc (s + 1) hk
  rw [hp] at P
  rw [show (c.sp (s + 1) .W).ph (s + 1)=.W by rw [Bu hk,if_pos rfl]]
  have hS:(w.setS s (((w.S s).s_does "wait").s_hand .none)).S s=((w.S s).s_does "wait").s_hand .none:=Al _ _ _
  exact P.own (GOk.refl _) (Op hk) ⟨P.st.1,congrArg SS.does hS,congrArg SS.hand hS⟩ (fun h=>by cases h) P.rsd P.wake P.act P.pend P.fail (P.sv0 (by decide)) rfl rfl rfl ((congrArg SS.next hS).trans rfl) (by decide) (by decide) (by decide) (fun h=>by cases h) (fun J=>by decide) (fun h=>by cases h)
theorem Rep.waitA {s:Nat} (hk:s + 1 < c.phs.length) (hp:c.ph (s + 1)=.W):Rep cf (c.sp (s + 1) .A) (w.setT (s + 1) (w.T (s + 1)).waits):=by
 refine R.step Cu rfl (R.fr.same rfl rfl rfl rfl rfl rfl rfl rfl rfl rfl rfl (E2 rfl) (Int.le_refl _) R.fr.mrest R.fr.fresh) R.told R.left R.got (fun j=>j=s + 1) (GOk.refl _) (.inl rfl) ?_ (fun j hj hS=>⟨?_,by rw [Bu hk,if_neg hS],rfl,Lk hk (by rw [hp]; decide) (by rw [hp]; decide) (by decide) j⟩) fun j hj hS=>?_
 ·rw [F6 hk (by decide) (by rw [hp]; decide)]; exact R.cal
 ·show (⟨updN w.T (s + 1) _ j,_,_,_,_,_,_,_⟩:PV)=_
  rw [Av _ _ hS]; rfl
 ·subst hS
  have P:=R.proc (s + 1) hk
  rw [hp] at P
  rw [show (c.sp (s + 1) .A).ph (s + 1)=.A by rw [Bu hk,if_pos rfl]]
  have hT:(view (w.setT (s + 1) (w.T (s + 1)).waits) (s + 1)).t=(w.T (s + 1)).waits:=Al _ _ _
  refine P.own (GOk.refl _) (Op hk) ⟨by rw [hT]; rfl,by rw [hT]; rfl,P.st.2.1⟩ (fun h=>by cases h) (by rw [hT]; rfl) (by rw [hT]; exact P.wake) (by rw [hT]; exact P.act) (by rw [hT]; exact P.pend) (by rw [hT]; exact P.fail) (P.sv0 (by decide)) rfl rfl rfl rfl (by decide) (by decide) (by decide) (fun h=>by cases h) (fun J=>by decide) (fun h=>by cases h)
theorem Rep.end0 {s:Nat} (hk:s + 1 < c.phs.length) (hp:c.ph (s + 1)=.B) (hpat:cf.pat=false):Rep cf (c.sp (s + 1) .W) ((w.setT (s + 1) ((w.T (s + 1)).s_act .none)).setS s (((w.S s).s_does "wait").s_hand .none)):=by
 refine R.step Cu rfl (R.fr.same rfl rfl rfl rfl rfl rfl rfl rfl rfl rfl rfl (E2 rfl) (Int.le_refl _) R.fr.mrest R.fr.fresh) R.told R.left ?_ (fun j=>j=s + 1) (GOk.refl _) (.inl rfl) ?_ (fun j hj hS=>⟨?_,by rw [Bu hk,if_neg hS],rfl,Lk hk (by rw [hp]; decide) (by rw [hp]; decide) (by decide) j⟩) fun j hj hS=>?_
 ·intro i hi
  show (updN w.S s _ i).got=_
  by_cases h:i=s
  ·subst h; rw [Al]; exact R.got i hi
  ·rw [Av _ _ h]; exact R.got i hi
 ·rw [F6 hk (by decide) (by rw [hp]; decide)]; exact R.cal
 ·show (⟨updN w.T (s + 1) _ j,_,_,_,_,if j=0 then _ else (updN w.S s _ (j - 1)).next,if j=0 then _ else (updN w.S s _ (j - 1)).hand,if j=0 then _ else (updN w.S s _ (j - 1)).does⟩:PV)=_
  rw [Av _ _ hS]
  by_cases h:j=0
  ·simp only [if_pos h]; unfold view; simp only [if_pos h]; rfl
  ·have:j - 1≠s:=fun z=>hS (by lia)
   rw [Av _ _ this]; rfl
 ·subst hS
  have P:=R.proc (s + 1) hk
  rw [hp] at P
  rw [show (c.sp (s + 1) .W).ph (s + 1)=.W by rw [Bu hk,if_pos rfl]]
  have hS:((w.setT (s + 1) ((w.T (s + 1)).s_act .none)).setS s (((w.S s).s_does "wait").s_hand .none)).S s=((w.S s).s_does "wait").s_hand .none:=Al _ _ _
  have hT:(view ((w.setT (s + 1) ((w.T (s + 1)).s_act .none)).setS s (((w.S s).s_does "wait").s_hand .none)) (s + 1)).t=(w.T (s + 1)).s_act .none:=Al _ _ _
  exact P.own (GOk.refl _) (Op hk) ⟨by rw [hT]; exact P.st.1,congrArg SS.does hS,congrArg SS.hand hS⟩ (fun h=>by cases h) (by rw [hT]; exact P.rsd) (by rw [hT]; exact P.wake) (by rw [hT]; simp [TS.s_act]) (by rw [hT]; exact P.pend) (by rw [hT]; exact P.fail) (P.sv0 (by decide)) rfl rfl rfl ((congrArg SS.next hS).trans rfl) (by decide) (by decide) (by decide) (fun h=>by cases h) (fun J=>by decide) (fun h=>by cases h)
theorem Rep.end1 {s:Nat} (hk:s + 1 < c.phs.length) (hp:c.ph (s + 1)=.B) (hq:c.ph s=.ACT) :
  Rep cf ((c.sp s .RM).sp (s + 1) .W) (((w.setT (s + 1) ((w.T (s + 1)).s_act .none)).setT s (w.T s).back).setS s (((w.S s).s_does "wait").s_hand .none)):=by
 have hs:s < c.phs.length:=by lia
 have hk2:s + 1 < (c.sp s .RM).phs.length:=by rw [Cu]; exact hk
 have hnum:∀ j,(updN (updN w.T (s + 1) ((w.T (s + 1)).s_act .none)) s (w.T s).back j).num=(w.T j).num:=fun j=>by
  rw [E2 (T:=updN w.T (s + 1) ((w.T (s + 1)).s_act .none)) (by rw [Av _ _ (by lia)]; rfl)]
  exact E2 (T:=w.T) (i:=s + 1) (t:=(w.T (s + 1)).s_act .none) rfl j
 refine R.step (Cu.trans Cu) rfl (R.fr.same rfl rfl rfl rfl rfl rfl rfl rfl rfl rfl rfl hnum (Int.le_refl _) R.fr.mrest R.fr.fresh) R.told R.left (fun i hi=>(Aor (w:=w) (s:=s) (x:=((w.S s).s_does "wait").s_hand .none) rfl i).trans (R.got i hi)) (fun j=>j=s∨j=s + 1) (GOk.refl _) (.inl rfl) ?_ (fun j hj hS=>⟨?_,?_,rfl,U4 hk (by rw [hp]; decide) (by rw [hp]; decide) (by decide) (fun z=>hS (.inl z)) (fun z=>hS (.inr z))⟩) fun j hj hS=>?_
 ·rw [F6 hk2 (by decide) (by rw [Bu hs,if_neg (by lia),hp]; decide),F6 hs (by decide) (by rw [hq]; decide)]; exact R.cal
 ·rw [vS (fun z=>hS (.inr z)),vT (fun z=>hS (.inl z)),vT (fun z=>hS (.inr z))]
 ·rw [Bu hk2,if_neg (fun z=>hS (.inr z)),Bu hs,if_neg (fun z=>hS (.inl z))]
 ·rcases hS with rfl | rfl
  ·have P:=R.proc j hs
   rw [hq] at P
   rw [show ((c.sp j .RM).sp (j + 1) .W).ph j=.RM by rw [Bu hk2,if_neg (by lia),Bu hs,if_pos rfl],vS (by lia),vT',vT (by lia)]
   refine P.own (GOk.refl _) ?_ ⟨rfl,P.st.2⟩ P.hd rfl rfl P.act rfl P.fail (P.sv0 (by decide)) rfl rfl rfl rfl (by decide) (by decide) (by decide) (fun J=>by decide) (fun J=>by decide) (fun h=>by cases h)
   by_cases h:j=0
   ·exact .inl h
   ·right; rw [Bu hk2,if_neg (by lia),Bu hs,if_neg (by lia)]; exact ⟨Iff.rfl,fun J=>rfl⟩
  ·have P:=R.proc (s + 1) hk
   rw [hp] at P
   rw [show ((c.sp s .RM).sp (s + 1) .W).ph (s + 1)=.W by rw [Bu hk2,if_pos rfl],vS',vT (by lia),vT']
   refine P.own (GOk.refl _) (.inr ?_) ⟨P.st.1,rfl,rfl⟩ (fun h=>by cases h) P.rsd P.wake (by simp [TS.s_act]) P.pend P.fail (P.sv0 (by decide)) rfl rfl rfl rfl (by decide) (by decide) (by decide) (fun h=>by cases h) (fun J=>by decide) (fun h=>by cases h)
   rw [Nat.add_sub_cancel,Bu hk2,if_neg (by lia),Bu hs,if_pos rfl,hq]
   exact ⟨⟨fun h=>(by cases h),fun h=>(by cases h)⟩,fun h=>(by cases h)⟩
noncomputable def Cst.take (c:Cst) (s:Nat) (x:Int):Cst:={ c with gots:=c.gots.set s (c.gots.getD s []++[x]) }
theorem Akd {s:Nat} {x:Int} (hs:s < c.gots.length) (j:Nat):(c.take s x).row j=if j=s + 1 then c.row (s + 1)++[x] else c.row j:=by
 unfold Cst.row Cst.take
 by_cases h0:j=0
 ·subst h0; simp
 ·rw [if_neg h0,if_neg h0,if_neg (Nat.succ_ne_zero s)]
  show (c.gots.set s (c.gots.getD s []++[x])).getD (j - 1) []=_
  rw [List.getD_eq_getElem?_getD,List.getElem?_set]
  by_cases h:j=s + 1
  ·subst h
   rw [Nat.add_sub_cancel,if_pos rfl,if_pos hs,if_pos rfl]; rfl
  ·rw [if_neg (by lia),if_neg h,List.getD_eq_getElem?_getD]
theorem Kw {s:Nat} {x:Int} (hs:s < c.gots.length) (j:Nat):(c.take s x).hand j=if j=s + 1 then x else c.hand j:=by
 unfold Cst.hand
 rw [Akd R hs]
 by_cases h:j=s + 1
 ·rw [if_pos h,if_pos h,Yd]
 ·rw [if_neg h,if_neg h]
theorem Akc {s:Nat} {x:Int} (hs:s < c.gots.length) (i:Nat):(c.take s x).gots.getD i []=if i=s then c.gots.getD s []++[x] else c.gots.getD i []:=by
 show (c.gots.set s _).getD i []=_
 rw [List.getD_eq_getElem?_getD,List.getElem?_set]
 by_cases h:i=s
 ·subst h; rw [if_pos rfl,if_pos hs,if_pos rfl]; rfl
 ·rw [if_neg (Ne.symm h),if_neg h,List.getD_eq_getElem?_getD]
theorem Rep.met {s kk:Nat} {x:Int} {p':Ph} {co:CO} {ss:SS} {w':Ws} (hk:s + 1 < c.phs.length) (hp:c.ph (s + 1)=.RA) (hc:Ql w.G kk s x) (hco:w.G kk=some (D2 co)) (hcc:co.c=s)
  (hss:ss.got=(w.S s).got++[.int x]) (hnx:ss.next=(w.S s).next)
  (hw:w'=w.met s (s + 1) kk co (w.T s) ss) (hp':p'≠.D∧p'≠.C∧p'≠.RA∧p'≠.X∧p'≠.B∧p'≠.ACT∧p'≠.RI) (hst:Al2 cf w.now { view w (s + 1) with sv:=[],hd:=ss.hand,ds:=ss.does } p') (hh:Ah5 p'=true→ss.hand=.int x) :
  Rep cf (((c.take s x).sp s .RS).sp (s + 1) p') w':=by
 subst hw
 have hs:s < c.phs.length:=by lia
 have hsg:s < c.gots.length:=by have:=R.len; lia
 have hpM:c.ph s=.M:=(R.proc (s + 1) hk).ra (by lia) hp
 have hl1:s < (c.take s x).phs.length:=hs
 have hk2:s + 1 < ((c.take s x).sp s .RS).phs.length:=by rw [Cu]; exact hk
 have e:w.met s (s + 1) kk co (w.T s) ss=(((w.setS s ss).setsv (s + 1) []).setG kk (D2 (U2 co))).setT s (((w.T s).s_call .none).woken (.tup [.str "called"]) .none):=by
  subst hcc; rfl
 rw [e]
 have hG:GOk w.G (updN w.G kk (some (D2 (U2 co)))):=GOk.set hco rfl rfl
 refine R.step (Cu.trans Cu) (by show (c.gots.set s _).length=_; rw [List.length_set]) (R.fr.same rfl rfl rfl rfl rfl rfl rfl rfl rfl rfl rfl (E2 rfl) (Int.le_refl _) R.fr.mrest (fun j hj=>?_)) R.told R.left (fun i hi=>?_) (fun j=>j=s∨j=s + 1) hG (.inl rfl) ?_ (fun j hj hS=>⟨?_,?_,?_,?_⟩) fun j hj hS=>?_
 ·show updN w.G kk _ j=none
  have:j≠kk:=fun z=>by subst z; have:=R.fr.fresh j hj; rw [hco] at this; cases this
  rw [Av _ _ this]; exact R.fr.fresh j hj
 ·show (updN w.S s ss i).got=iv ((c.take s x).gots.getD i [])
  rw [Akc R hsg]
  by_cases h:i=s
  ·subst h
   rw [Al,if_pos rfl,hss,R.got i hi]; simp [iv]
  ·rw [Av _ _ h,if_neg h]; exact R.got i hi
 ·rw [F6 hk2 hp'.1 (by rw [Bu hl1,if_neg (by lia)]; show c.ph (s + 1)≠_; rw [hp]; decide),F6 hl1 (by decide) (by show c.ph s≠_; rw [hpM]; decide)]; exact R.cal
 ·rw [vT (fun z=>hS (.inl z)),vG,vsv (fun z=>hS (.inr z)),vS (fun z=>hS (.inr z))]
 ·rw [Bu hk2,if_neg (fun z=>hS (.inr z)),Bu hl1,if_neg (fun z=>hS (.inl z))]; rfl
 ·rw [He,He,Kw R hsg,if_neg (fun z=>hS (.inr z))]
 ·by_cases h0:j=0
  ·exact .inl h0
  ·rw [He,He,Kw R hsg,Bu hk2,Bu hl1]
   by_cases h:j - 1=s + 1
   ·rw [if_pos h,h,hp]; exact Nw (by decide) (by decide) hp'.2.1
   ·rw [if_neg h,if_neg h,if_neg (fun z=>hS (.inr (by lia)))]; exact Gi rfl rfl
 ·rcases hS with rfl | rfl
  ·have P:=R.proc j hs
   rw [hpM] at P
   rw [show (((c.take j x).sp j .RS).sp (j + 1) p').ph j=.RS by rw [Bu hk2,if_neg (by lia),Bu hl1,if_pos rfl],vT',vG,vsv (by lia),vS (by lia)]
   refine P.own hG ?_ ⟨rfl,P.st.2⟩ (fun J=>?_) rfl rfl P.act P.pend P.fail (P.sv0 (by decide)) rfl rfl rfl rfl (by decide) (by decide) (by decide) (fun J=>by decide) (fun J=>by decide) (fun h=>by cases h)
   ·by_cases h:j=0
    ·exact .inl h
    ·right
     rw [Bu hk2,if_neg (by lia),Bu hl1,if_neg (by lia),He,He,Kw R hsg,if_neg (by lia)]
     exact ⟨Iff.rfl,fun J=>rfl⟩
   ·rw [He,He,Kw R hsg,if_neg (by lia)]
    exact P.hd rfl
  ·have P:=R.proc (s + 1) hk
   rw [hp,Nat.add_sub_cancel,hpM] at P
   rw [show (((c.take s x).sp s .RS).sp (s + 1) p').ph (s + 1)=p' by rw [Bu hk2,if_pos rfl],vT (by lia),vG,Apa,vS',hnx]
   refine P.own hG (.inr ?_) hst (fun h=>?_) P.rsd ?_ ?_ ?_ P.fail rfl rfl rfl rfl rfl (by decide) hp'.2.2.2.1 hp'.2.2.1 (fun h=>by cases h) (fun J=>hp'.2.2.2.2.2.2) (fun h=>absurd h hp'.1)
   ·rw [Nat.add_sub_cancel,Bu hk2,if_neg (by lia),Bu hl1,if_pos rfl]
    exact ⟨⟨fun h=>(by cases h),fun h=>(by cases h)⟩,fun h=>(by cases h)⟩
   ·rw [He,He,Kw R hsg,if_pos rfl]; exact hh h
   ·rw [if_neg hp'.1]; exact P.wake
   ·rw [if_neg (fun h=>hp'.2.2.2.2.1 h.1)]; exact P.act.trans (by simp)
   ·rw [if_neg hp'.2.2.2.2.2.1]; exact P.pend
end
end
section
noncomputable def sdW (w:Ws):Nat→Ws
 | 0=>w.s_sdoes "send"
 | s + 1=>w.setS s ((w.S s).s_does "send")
theorem vsd {w:Ws} {k j:Nat} (h:j≠k):view (sdW w k) j=view w j:=by
 cases k with
 | zero =>
  show (⟨_,_,_,_,_,if j=0 then _ else _,if j=0 then _ else _,if j=0 then _ else _⟩:PV)=⟨_,_,_,_,_,if j=0 then _ else _,if j=0 then _ else _,if j=0 then _ else _⟩
  simp only [if_neg h]; rfl
 | succ s=>exact vS h
theorem Ao9 {w:Ws} {k:Nat}:view (sdW w k) k={ view w k with ds := "send" }:=by
 cases k with
 | zero=>rfl
 | succ s=>exact vS'
theorem Ajx {w:Ws} {k:Nat} (l:Nat):((sdW w k).S l).got=(w.S l).got:=by
 cases k with
 | zero=>rfl
 | succ s=>exact Aor (w:=w) (s:=s) (x:=(w.S s).s_does "send") rfl l
structure SdEq (w w':Ws):Prop where
 n:w'.n=w.n
 tn:w'.tn=w.tn
 T:w'.T=w.T
 q:w'.q=w.q
 sv:w'.sv=w.sv
 ms:w'.ms=w.ms
 M:w'.M=w.M
 lib:w'.lib=w.lib
 nums:w'.nums=w.nums
 now:w'.now=w.now
 truth:w'.truth=w.truth
 told:w'.told=w.told
 crew:w'.crew=w.crew
 rests:w'.rests=w.rests
 nested:w'.nested=w.nested
 pat:w'.pat=w.pat
 slow:w'.slow=w.slow
 left:w'.left=w.left
 ns:w'.ns=w.ns
 sn:w'.sn=w.sn
 wishes:w'.wishes=w.wishes
 G:w'.G=w.G
 gn:w'.gn=w.gn
theorem Am6 (w:Ws) (k:Nat):SdEq w (sdW w k):=by
 cases k <;> exact ⟨rfl,rfl,rfl,rfl,rfl,rfl,rfl,rfl,rfl,rfl,rfl,rfl,rfl,rfl,rfl,rfl,rfl,rfl,rfl,rfl,rfl,rfl,rfl⟩
theorem U1 {w:Ws} {s p k:Nat} {co:CO} {tc:TS} {a b:SS}:(w.met s p k co tc a).setS s b=w.met s p k co tc b:=by
 show ({ w with S:=updN (updN w.S s a) s b,sv:=updN w.sv p [],G:=updN w.G k (some (D2 (U2 co))),T:=updN w.T co.c ((tc.s_call .none).woken (.tup [.str "called"]) .none) }:Ws)={ w with S:=updN w.S s b,sv:=updN w.sv p [],G:=updN w.G k (some (D2 (U2 co))),T:=updN w.T co.c ((tc.s_call .none).woken (.tup [.str "called"]) .none) }
 rw [Cb]
section
variable {cf:Conf} {c:Cst} {w:Ws} (R:Rep cf c w)
include R
theorem Rep.toD {s:Nat} (hk:s + 1 < c.phs.length) (hp:c.ph (s + 1)=.H) (hsl:cf.slow=s) (hds:(view w (s + 1)).ds = "make"):Rep cf (c.sp (s + 1) .D) ((w.s_rests (w.rests + 1)).setT (s + 1) ((w.T (s + 1)).rests (w.now + 1))):=by
 refine R.step Cu rfl (R.fr.same rfl rfl rfl rfl rfl rfl rfl rfl rfl rfl rfl (E2 rfl) (Int.le_refl _) R.fr.mrest R.fr.fresh) R.told R.left R.got (fun j=>j=s + 1) (GOk.refl _) (.inl rfl) ?_ (fun j hj hS=>⟨vT hS,by rw [Bu hk,if_neg hS],rfl,Lk hk (by rw [hp]; decide) (by rw [hp]; decide) (by decide) j⟩) fun j hj hS=>?_
 ·show w.rests + 1=w.now + dOf cf (c.sp (s + 1) .D)
  have h1:dOf cf (c.sp (s + 1) .D)=1:=by
   unfold dOf
   have:=Bu (c:=c) (p:=.D) hk (cf.slow + 1)
   unfold Cst.ph at this
   rw [this,hsl,if_pos rfl]; rfl
  have h2:dOf cf c=0:=by
   unfold dOf
   have h3:c.phs.getD (cf.slow + 1) .X=.H:=by rw [hsl]; exact hp
   rw [h3]; rfl
  have:=R.cal
  have:w.rests=w.now + dOf cf c:=this
  lia
 ·subst hS
  have P:=R.proc (s + 1) hk
  rw [hp] at P
  rw [show (c.sp (s + 1) .D).ph (s + 1)=.D by rw [Bu hk,if_pos rfl],vT']
  exact P.own (GOk.refl _) (Op hk) ⟨rfl,hds⟩ (fun J=>P.hd rfl) rfl rfl P.act P.pend P.fail (P.sv0 (by decide)) rfl rfl rfl rfl (by decide) (by decide) (by decide) (fun h=>by cases h) (fun J=>by decide) (fun J=>by rw [hsl])
theorem Rep.waitB {s l kk:Nat} {co:CO} (hk:s + 1 < c.phs.length) (hp:c.ph (s + 1)=.W) (hq:c.ph s=.C) (hco:w.G kk=some (D2 co)) (hcc:co.c=s) (hcv:co.vals=.flist [.int (c.hand s)]) :
  Rep cf ((c.sp s .M).sp (s + 1) .RA) (w.selB (s + 1) kk co (w.T s) (w.T (s + 1))):=by
 have hs:s < c.phs.length:=by lia
 have hk2:s + 1 < (c.sp s .M).phs.length:=by rw [Cu]; exact hk
 have e:w.selB (s + 1) kk co (w.T s) (w.T (s + 1))=((((w.setT s (((w.T s).s_st "meeting").s_wake .none)).setT (s + 1) ((w.T (s + 1)).woken (.tup [.str "accept",.int 0,.id (.tmp kk)]) .none)).setq (s + 1) none).setsv (s + 1) [.id (.tmp kk)]).setG kk (D2 (Nx co)):=by subst hcc; rfl
 rw [e]
 have hG:GOk w.G (updN w.G kk (some (D2 (Nx co)))):=GOk.set hco rfl rfl
 have hnum:∀ j,(updN (updN w.T s (((w.T s).s_st "meeting").s_wake .none)) (s + 1) ((w.T (s + 1)).woken (.tup [.str "accept",.int 0,.id (.tmp kk)]) .none) j).num=(w.T j).num:=fun j=>by
  rw [E2 (T:=updN w.T s _) (by rw [Av _ _ (by lia)]; rfl)]
  exact E2 (T:=w.T) (i:=s) (t:=((w.T s).s_st "meeting").s_wake .none) rfl j
 refine R.step (Cu.trans Cu) rfl (R.fr.same rfl rfl rfl rfl rfl rfl rfl rfl rfl rfl rfl hnum (Int.le_refl _) R.fr.mrest (fun j hj=>?_)) R.told R.left R.got (fun j=>j=s∨j=s + 1) hG (.inl rfl) ?_ (fun j hj hS=>⟨?_,?_,rfl,U4 hk (by rw [hp]; decide) (by rw [hp]; decide) (by decide) (fun z=>hS (.inl z)) (fun z=>hS (.inr z))⟩) fun j hj hS=>?_
 ·show updN w.G kk _ j=none
  have:j≠kk:=fun z=>by subst z; have:=R.fr.fresh j hj; rw [hco] at this; cases this
  rw [Av _ _ this]; exact R.fr.fresh j hj
 ·rw [F6 hk2 (by decide) (by rw [Bu hs,if_neg (by lia),hp]; decide),F6 hs (by decide) (by rw [hq]; decide)]; exact R.cal
 ·rw [vG,vsv (fun z=>hS (.inr z)),vq (fun z=>hS (.inr z)),vT (fun z=>hS (.inr z)),vT (fun z=>hS (.inl z))]
 ·rw [Bu hk2,if_neg (fun z=>hS (.inr z)),Bu hs,if_neg (fun z=>hS (.inl z))]
 ·rcases hS with rfl | rfl
  ·have P:=R.proc j hs
   rw [hq] at P
   rw [show ((c.sp j .M).sp (j + 1) .RA).ph j=.M by rw [Bu hk2,if_neg (by lia),Bu hs,if_pos rfl],vG,vsv (by lia),vq (by lia),vT (by lia),vT']
   refine P.own hG ?_ ⟨rfl,P.st.2⟩ P.hd P.rsd rfl P.act P.pend P.fail (P.sv0 (by decide)) rfl rfl rfl rfl (by decide) (by decide) (by decide) (fun J=>by decide) (fun J=>by decide) (fun h=>by cases h)
   by_cases h:j=0
   ·exact .inl h
   ·right; rw [Bu hk2,if_neg (by lia),Bu hs,if_neg (by lia)]; exact ⟨Iff.rfl,fun J=>rfl⟩
  ·have P:=R.proc (s + 1) hk
   rw [hp] at P
   rw [show ((c.sp s .M).sp (s + 1) .RA).ph (s + 1)=.RA by rw [Bu hk2,if_pos rfl],show ((c.sp s .M).sp (s + 1) .RA).ph (s + 1 - 1)=.M by rw [Nat.add_sub_cancel,Bu hk2,if_neg (by lia),Bu hs,if_pos rfl],vG,Apa,vq',vT',vT (by lia)]
   exact ⟨⟨rfl,P.st.2.1⟩,fun h=>(by cases h),rfl,rfl,P.act,P.pend,P.fail,fun h=>absurd rfl h,fun J=>⟨kk,rfl,rfl,_,Al _ _ _,hcc,hcv⟩,fun J=>rfl,fun J h=>(by cases h),P.ms0,P.ms1,P.nx,fun h=>(by cases h),fun J=>(by decide),fun h=>(by cases h),fun J J=>rfl⟩
theorem Rep.callA {k:Nat} (hk:k + 1 < c.phs.length) (hp:c.ph k=.H) (hq:c.ph (k + 1)=.A) :
  Rep cf ((c.sp k .M).sp (k + 1) .RA) ((sdW w k).callA k (k + 1) (w.T k) (w.T (k + 1)) (.flist [.int (c.hand k)])):=by
 have hs:k < c.phs.length:=by lia
 have hk2:k + 1 < (c.sp k .M).phs.length:=by rw [Cu]; exact hk
 have E:=Am6 w k
 generalize hw:sdW w k=w₁ at E
 have v1:∀ j,j≠k→view w₁ j=view w j:=fun j h=>by rw [← hw]; exact vsd h
 have v2:view w₁ k={ view w k with ds := "send" }:=by rw [← hw]; exact Ao9
 have gt:∀ l,(w₁.S l).got=(w.S l).got:=fun l=>by rw [← hw]; exact Ajx l
 generalize hw':w₁.callA k (k + 1) (w.T k) (w.T (k + 1)) (.flist [.int (c.hand k)])=w'
 have hGn:w.G w.gn=none:=R.fr.fresh _ (Nat.le_refl _)
 have eG:w'.G=updN w.G w.gn (some (D2 ⟨w.nums + 1,k,k + 1,.flist [.int (c.hand k)], "served",.none⟩)):=by rw [← hw']; show updN w₁.G w₁.gn _=_; rw [E.G,E.gn,E.nums]
 have eT:w'.T=updN (updN w.T k ((w.T k).calls w.gn "meeting")) (k + 1) ((w.T (k + 1)).woken (.tup [.str "accept",.int 0,.id (.tmp w.gn)]) .none):=by rw [← hw']; show updN (updN w₁.T k _) (k + 1) _=_; rw [E.T,E.gn]
 have esv:w'.sv=updN w.sv (k + 1) [.id (.tmp w.gn)]:=by rw [← hw']; show updN w₁.sv (k + 1) _=_; rw [E.sv,E.gn]
 have hG:GOk w.G w'.G:=by rw [eG]; exact GOk.new hGn
 have V:∀ j,view w' j={ view w₁ j with t:=w'.T j,sv:=w'.sv j }:=fun j=>by rw [← hw']; rfl
 refine R.step (Cu.trans Cu) rfl (R.fr.same (by rw [← hw']; exact E.n) (by rw [← hw']; exact E.tn) (by rw [← hw']; exact E.ns) (by rw [← hw']; exact E.sn) (by rw [← hw']; exact E.nested) (by rw [← hw']; exact E.pat) (by rw [← hw']; exact E.slow) (by rw [← hw']; exact E.truth) (by rw [← hw']; exact E.wishes) (by rw [← hw']; exact E.lib) (by rw [← hw']; exact E.crew) (fun j=>?_) ?_ (fun j hj=>?_) (fun j hj=>?_)) ?_ ?_ (fun i hi=>?_) (fun j=>j=k∨j=k + 1) hG (.inl (by rw [← hw']; exact E.now)) ?_ (fun j hj hS=>⟨?_,?_,rfl,U4 hk (by rw [hq]; decide) (by rw [hq]; decide) (by decide) (fun z=>hS (.inl z)) (fun z=>hS (.inr z))⟩) fun j hj hS=>?_
 ·rw [eT,E2 (T:=updN w.T k _) (by rw [Av _ _ (by lia)]; rfl)]
  exact E2 (T:=w.T) (i:=k) (t:=(w.T k).calls w.gn "meeting") rfl j
 ·rw [← hw']; show w.nums≤w₁.nums + 1; rw [E.nums]; lia
 ·rw [← hw']; show w₁.M j=none; rw [E.M]; exact R.fr.mrest j hj
 ·have h1:w.gn + 1≤j:=by rw [← hw'] at hj; have:w₁.gn + 1≤j:=hj; rw [E.gn] at this; exact this
  rw [eG,Av _ _ (by lia)]; exact R.fr.fresh j (by lia)
 ·rw [← hw']; show w₁.told=_; rw [E.told]; exact R.told
 ·rw [← hw']; show w₁.left=_; rw [E.left]; exact R.left
 ·rw [← hw']; show (w₁.S i).got=_; rw [gt]; exact R.got i hi
 ·rw [F6 hk2 (by decide) (by rw [Bu hs,if_neg (by lia),hq]; decide),F6 hs (by decide) (by rw [hp]; decide),← hw']
  show w₁.rests=w₁.now + _
  rw [E.rests,E.now]; exact R.cal
 ·rw [V,eT,esv,Av _ _ (fun z=>hS (.inr z)),Av _ _ (fun z=>hS (.inl z)),Av _ _ (fun z=>hS (.inr z)),v1 j (fun z=>hS (.inl z))]; rfl
 ·rw [Bu hk2,if_neg (fun z=>hS (.inr z)),Bu hs,if_neg (fun z=>hS (.inl z))]
 ·rcases hS with rfl | rfl
  ·have P:=R.proc j hs
   rw [hp] at P
   rw [show ((c.sp j .M).sp (j + 1) .RA).ph j=.M by rw [Bu hk2,if_neg (by lia),Bu hs,if_pos rfl],V,v2,eT,esv,Av _ _ (by lia),Al,Av _ _ (by lia)]
   refine P.own hG ?_ ⟨rfl,rfl⟩ (fun J=>P.hd rfl) rfl rfl P.act P.pend P.fail (P.sv0 (by decide)) rfl rfl rfl rfl (by decide) (by decide) (by decide) (fun J=>by decide) (fun J=>by decide) (fun h=>by cases h)
   by_cases h:j=0
   ·exact .inl h
   ·right; rw [Bu hk2,if_neg (by lia),Bu hs,if_neg (by lia)]; exact ⟨Iff.rfl,fun J=>rfl⟩
  ·have P:=R.proc (k + 1) hk
   rw [hq] at P
   rw [show ((c.sp k .M).sp (k + 1) .RA).ph (k + 1)=.RA by rw [Bu hk2,if_pos rfl],show ((c.sp k .M).sp (k + 1) .RA).ph (k + 1 - 1)=.M by rw [Nat.add_sub_cancel,Bu hk2,if_neg (by lia),Bu hs,if_pos rfl],V,v1 (k + 1) (by lia),eT,esv,Al,Al]
   have hq0:(view w (k + 1)).q=none:=P.q0 (.inr (by rw [Nat.add_sub_cancel,hp]; decide))
   exact ⟨⟨rfl,P.st.2.2⟩,fun h=>(by cases h),rfl,rfl,P.act,P.pend,P.fail,fun h=>absurd rfl h,fun J=>⟨w.gn,rfl,rfl,_,by rw [eG]; exact Al _ _ _,rfl,rfl⟩,fun J=>hq0,fun J h=>(by cases h),P.ms0,P.ms1,P.nx,fun h=>(by cases h),fun J=>(by decide),fun h=>(by cases h),fun J J=>rfl⟩
theorem Rep.callB {k:Nat} (hk:k + 1 < c.phs.length) (hp:c.ph k=.H):Rep cf (c.sp k .C) ((sdW w k).callB k (k + 1) (w.T k) (.flist [.int (c.hand k)])):=by
 have hs:k < c.phs.length:=by lia
 have E:=Am6 w k
 generalize hw:sdW w k=w₁ at E
 have v1:∀ j,j≠k→view w₁ j=view w j:=fun j h=>by rw [← hw]; exact vsd h
 have v2:view w₁ k={ view w k with ds := "send" }:=by rw [← hw]; exact Ao9
 have gt:∀ l,(w₁.S l).got=(w.S l).got:=fun l=>by rw [← hw]; exact Ajx l
 generalize hw':w₁.callB k (k + 1) (w.T k) (.flist [.int (c.hand k)])=w'
 have hGn:w.G w.gn=none:=R.fr.fresh _ (Nat.le_refl _)
 have hGn1:w.G (w.gn + 1)=none:=R.fr.fresh _ (Nat.le_succ _)
 have eG:w'.G=updN (updN w.G (w.gn + 1) (some (.list [.id (.tmp w.gn)]))) w.gn (some (D2 ⟨w.nums + 1,k,k + 1,.flist [.int (c.hand k)], "queued",.none⟩)):=by rw [← hw']; show updN (updN w₁.G (w₁.gn + 1) _) w₁.gn _=_; rw [E.G,E.gn,E.nums]
 have eT:w'.T=updN w.T k ((w.T k).calls w.gn "calling"):=by rw [← hw']; show updN w₁.T k _=_; rw [E.T,E.gn]
 have eq:w'.q=updN w.q (k + 1) (some (.id (.tmp (w.gn + 1)))):=by rw [← hw']; show updN w₁.q (k + 1) _=_; rw [E.q,E.gn]
 have hG:GOk w.G w'.G:=by rw [eG]; exact (GOk.new hGn1).trans (GOk.new (by rw [Av _ _ (by lia)]; exact hGn))
 have V:∀ j,view w' j={ view w₁ j with t:=w'.T j,q:=w'.q j }:=fun j=>by rw [← hw']; rfl
 refine R.step Cu rfl (R.fr.same (by rw [← hw']; exact E.n) (by rw [← hw']; exact E.tn) (by rw [← hw']; exact E.ns) (by rw [← hw']; exact E.sn) (by rw [← hw']; exact E.nested) (by rw [← hw']; exact E.pat) (by rw [← hw']; exact E.slow) (by rw [← hw']; exact E.truth) (by rw [← hw']; exact E.wishes) (by rw [← hw']; exact E.lib) (by rw [← hw']; exact E.crew) (fun j=>?_) ?_ (fun j hj=>?_) (fun j hj=>?_)) ?_ ?_ (fun i hi=>?_) (fun j=>j=k∨j=k + 1) hG (.inl (by rw [← hw']; exact E.now)) ?_ (fun j hj hS=>⟨?_,?_,rfl,?_⟩) fun j hj hS=>?_
 ·rw [eT]; exact E2 (T:=w.T) (i:=k) (t:=(w.T k).calls w.gn "calling") rfl j
 ·rw [← hw']; show w.nums≤w₁.nums + 1; rw [E.nums]; lia
 ·rw [← hw']; show w₁.M j=none; rw [E.M]; exact R.fr.mrest j hj
 ·have h1:w.gn + 2≤j:=by rw [← hw'] at hj; have:w₁.gn + 2≤j:=hj; rw [E.gn] at this; exact this
  rw [eG,Av _ _ (by lia),Av _ _ (by lia)]; exact R.fr.fresh j (by lia)
 ·rw [← hw']; show w₁.told=_; rw [E.told]; exact R.told
 ·rw [← hw']; show w₁.left=_; rw [E.left]; exact R.left
 ·rw [← hw']; show (w₁.S i).got=_; rw [gt]; exact R.got i hi
 ·rw [F6 hs (by decide) (by rw [hp]; decide),← hw']
  show w₁.rests=w₁.now + _
  rw [E.rests,E.now]; exact R.cal
 ·rw [V,eT,eq,Av _ _ (fun z=>hS (.inl z)),Av _ _ (fun z=>hS (.inr z)),v1 j (fun z=>hS (.inl z))]; rfl
 ·rw [Bu hs,if_neg (fun z=>hS (.inl z))]
 ·by_cases h0:j=0
  ·exact .inl h0
  ·rw [Bu hs,if_neg (fun z=>hS (.inr (by lia)))]; exact Gi rfl rfl
 ·rcases hS with rfl | rfl
  ·have P:=R.proc j hs
   rw [hp] at P
   rw [show (c.sp j .C).ph j=.C by rw [Bu hs,if_pos rfl],V,v2,eT,eq,Al,Av _ _ (by lia)]
   exact P.own hG (Op hs) ⟨rfl,rfl⟩ (fun J=>P.hd rfl) rfl rfl P.act P.pend P.fail (P.sv0 (by decide)) rfl rfl rfl rfl (by decide) (by decide) (by decide) (fun J=>by decide) (fun J=>by decide) (fun h=>by cases h)
  ·have P:=R.proc (k + 1) hk
   rw [Nat.add_sub_cancel,hp] at P
   rw [show (c.sp k .C).ph (k + 1)=c.ph (k + 1) by rw [Bu hs,if_neg (by lia)],show (c.sp k .C).ph (k + 1 - 1)=.C by rw [Nat.add_sub_cancel,Bu hs,if_pos rfl],V,v1 (k + 1) (by lia),eT,eq,Av _ _ (by lia),Al,show w'.now=w.now by rw [← hw']; exact E.now]
   have hne:c.ph (k + 1)≠.RA:=fun h=>by have:=P.ra (by lia) h; cases this
   exact ⟨P.st,P.hd,P.rsd,P.wake,P.act,P.pend,P.fail,P.sv0,fun h=>absurd h hne,fun h=>h.elim (fun h=>by cases h) fun h=>absurd rfl h,fun J J=>⟨w.gn + 1,w.gn,rfl,by rw [eG,Av _ _ (by lia),Al],_,by rw [eG,Al],rfl,rfl⟩,P.ms0,P.ms1,P.nx,P.src,P.stg,P.dly,fun J h=>absurd h hne⟩
end
end
section
noncomputable def Ws.grow (w:Ws) (nst pat:Bool) (k:Nat) (tp:TS) (S':Nat→SS) (sx:AVal):Ws:=match nst with
 | false=>w.growL pat k tp S' sx
 | true=>w.growM pat k tp S' sx
noncomputable def gS (w:Ws):Nat→Nat→SS
 | 0=>w.S
 | s + 1=>updN w.S s ((w.S s).s_next (.id (.task w.n)))
noncomputable def gx (w:Ws):Nat→AVal
 | 0=>.id (.task w.n)
 | _ + 1=>w.snext
noncomputable def Cst.grow (c:Cst) (k:Nat) (p:Ph):Cst:={ c with phs:=c.phs.set k p++[Ph.B],gots:=c.gots++[[]] }
theorem Pg {c:Cst} {k:Nat} {p:Ph} (hk:k < c.phs.length) (j:Nat):(c.grow k p).ph j=if j=k then p else if j=c.phs.length then .B else c.ph j:=by
 show (c.phs.set k p++[Ph.B]).getD j .X=_
 rw [List.getD_eq_getElem?_getD]
 by_cases h1:j < c.phs.length
 ·rw [List.getElem?_append_left (by rw [List.length_set]; exact h1),← List.getD_eq_getElem?_getD,Abv hk,if_neg (Nat.ne_of_lt h1)]; rfl
 ·rw [List.getElem?_append_right (by rw [List.length_set]; lia),List.length_set,if_neg (by lia)]
  by_cases h2:j=c.phs.length
  ·rw [if_pos h2,h2,Nat.sub_self]; rfl
  ·rw [if_neg h2,List.getElem?_eq_none (by simp; lia)]
   unfold Cst.ph
   rw [List.getD_eq_getElem?_getD,List.getElem?_eq_none (by lia)]
theorem Qz {c:Cst} {k:Nat} {p:Ph} (j:Nat) (hj:j≤c.gots.length):(c.grow k p).hand j=c.hand j:=by
 unfold Cst.hand Cst.row
 by_cases h:j=0
 ·rw [if_pos h,if_pos h]; rfl
 ·rw [if_neg h,if_neg h]
  show ((c.gots++[[]]).getD (j - 1) []).getLastD 0=_
  rw [List.getD_eq_getElem?_getD,List.getElem?_append_left (by lia),← List.getD_eq_getElem?_getD]
theorem Agj {T:Nat→TS} {n p:Nat} {num:Int} {mas:AVal} {b:Bool} (hp:p≠n):∀ j,j≠n→(Rv T n p num mas (T p) b j).num=(T j).num:=fun j hj=>by
 cases b with
 | false=>exact congrArg TS.num (Av _ _ hj)
 | true =>
  show (updN (updN T n _) p _ j).num=_
  by_cases h:j=p
  ·subst h; rw [Al]; rfl
  ·rw [Av _ _ h,Av _ _ hj]
theorem X9 {T:Nat→TS} {n p:Nat} {num:Int} {mas:AVal} {tp:TS} {b:Bool} (hp:p≠n):Rv T n p num mas tp b n=Tb num mas (if b then .id (.task p) else .none):=by
 cases b with
 | false=>exact Al _ _ _
 | true =>
  show updN (updN T n _) p _ n=_
  rw [Av _ _ (Ne.symm hp),Al]; rfl
theorem Agk {T:Nat→TS} {n p:Nat} {num:Int} {mas:AVal} {tp:TS} {b:Bool} {j:Nat} (h1:j≠n) (h2:j≠p):Rv T n p num mas tp b j=T j:=by
 cases b with
 | false=>exact Av _ _ h1
 | true =>
  show updN (updN T n _) p _ j=_
  rw [Av _ _ h2,Av _ _ h1]
theorem Agl {T:Nat→TS} {n p:Nat} {num:Int} {mas:AVal} {b:Bool} (hp:p≠n):Rv T n p num mas (T p) b p=if b then (T p).acting else T p:=by
 cases b with
 | false=>exact Av _ _ hp
 | true=>exact Al _ _ _
structure GrowEq (w w':Ws) (k:Nat):Prop where
 a0:w'.n=w.n + 1
 a1:w'.tn=w.n + 1
 a2:w'.ns=w.ns + 1
 a3:w'.sn=w.ns + 1
 a4:w'.nested=w.nested
 a5:w'.pat=w.pat
 a6:w'.slow=w.slow
 a7:w'.truth=w.truth
 a8:w'.wishes=w.wishes
 a9:w'.told=w.told
 a10:w'.left=w.left
 a11:w'.G=w.G
 a12:w'.gn=w.gn
 a13:w'.now=w.now
 a14:w'.rests=w.rests
 a15:w'.q=updN w.q w.n none
 a16:w'.sv=updN w.sv w.n []
 a17:w'.S=updN (gS w k) w.ns M2
 a18:w'.snext=gx w k
 a19:w'.shand=w.shand
 a20:w'.sdoes=w.sdoes
 a21:w'.lib.ended=w.lib.ended
section
variable {cf:Conf} {c:Cst} {w:Ws} (R:Rep cf c w)
include R
theorem Rep.grow {k:Nat} (hk:k + 1=c.phs.length) (hl:k < 30) (hp:c.ph k=.H):Rep cf (c.grow k (if cf.pat then .ACT else .H)) (w.grow cf.nst cf.pat k (w.T k) (gS w k) (gx w k)):=by
 have F:=R.fr
 have hks:k < c.phs.length:=by lia
 have hkn:k≠w.n:=by rw [F.n]; lia
 have hgl:c.gots.length=k:=by have:=R.len; lia
 have hlen:(c.grow k (if cf.pat then .ACT else .H)).phs.length=c.phs.length + 1:=by
  show (c.phs.set k _++[Ph.B]).length=_
  rw [List.length_append,List.length_set]; rfl
 have hpp:∀ j,j < c.phs.length→j≠k→(c.grow k (if cf.pat then .ACT else .H)).ph j=c.ph j:=fun j h1 h2=>by rw [Pg hks,if_neg h2,if_neg (Nat.ne_of_lt h1)]
 have hpk:(c.grow k (if cf.pat then .ACT else .H)).ph k=if cf.pat then .ACT else .H:=by rw [Pg hks,if_pos rfl]
 have hpn:(c.grow k (if cf.pat then .ACT else .H)).ph c.phs.length=.B:=by rw [Pg hks,if_neg (by lia),if_pos rfl]
 generalize hw:w.grow cf.nst cf.pat k (w.T k) (gS w k) (gx w k)=w'
 obtain ⟨num,mas,hnum,eT,enums⟩:∃ num mas,w.nums < num∧w'.T=Rv w.T w.n k num mas (w.T k) cf.pat∧w'.nums=num:=by
  rw [← hw]
  cases cf.nst with
  | false=>exact ⟨w.nums + 1,.id .lib,by lia,rfl,rfl⟩
  | true=>exact ⟨w.nums + 1 + 1,.id (.master k),by lia,rfl,rfl⟩
 have ecrew:w'.crew=w.crew++[.int num]:=by
  rw [← hw] at enums ⊢
  cases h:cf.nst <;> rw [h] at enums <;> (rw [← enums]; rfl)
 have e1:GrowEq w w' k:=by
  rw [← hw]
  cases cf.nst <;> exact ⟨rfl,rfl,rfl,rfl,rfl,rfl,rfl,rfl,rfl,rfl,rfl,rfl,rfl,rfl,rfl,rfl,rfl,rfl,rfl,rfl,rfl,rfl⟩
 obtain ⟨en,etn,ens,esn,enst,epat,eslow,etruth,ewish,etold,eleft,eG,egn,enow,erests,eq,esv,eS,esx,esh,esd,elE⟩:=e1
 have hno:∀ j,j < w.n→(w'.T j).num=(w.T j).num:=fun j hj=>by rw [eT]; exact Agj hkn j (Nat.ne_of_lt hj)
 have hnn:(w'.T w.n).num=num:=by rw [eT,X9 hkn]; rfl
 have dict:∀ j,j < c.phs.length→(view w' j).nx=(if j=k then .id (.task w.n) else (view w j).nx)∧(view w' j).hd=(view w j).hd∧(view w' j).ds=(view w j).ds:=fun j hj=>by
  show (if j=0 then w'.snext else (w'.S (j - 1)).next)=_∧(if j=0 then w'.shand else (w'.S (j - 1)).hand)=(if j=0 then w.shand else (w.S (j - 1)).hand)∧(if j=0 then w'.sdoes else (w'.S (j - 1)).does)=(if j=0 then w.sdoes else (w.S (j - 1)).does)
  rw [esx,esh,esd,eS]
  have hns:w.ns=k:=by have:=F.ns; lia
  by_cases h0:j=0
  ·subst h0
   cases k with
   | zero=>exact ⟨rfl,rfl,rfl⟩
   | succ s=>exact ⟨rfl,rfl,rfl⟩
  ·rw [if_neg h0,if_neg h0,if_neg h0,if_neg h0,if_neg h0,Av _ _ (by lia)]
   cases k with
   | zero=>lia
   | succ s =>
    show (updN w.S s ((w.S s).s_next _) (j - 1)).next=_∧(updN w.S s ((w.S s).s_next _) (j - 1)).hand=_∧(updN w.S s ((w.S s).s_next _) (j - 1)).does=_
    by_cases h:j - 1=s
    ·rw [h,Al,if_pos (by lia)]; exact ⟨rfl,rfl,rfl⟩
    ·rw [Av _ _ h,if_neg (by lia)]
     refine ⟨?_,rfl,rfl⟩
     show _=(if j=0 then _ else _)
     rw [if_neg h0]
 have msM:∀ j,j < c.phs.length→j≠k→w'.ms j=w.ms j∧w'.M j=w.M j:=fun j hj hjk=>by
  rw [← hw]
  have hjn:j≠w.n:=by rw [F.n]; lia
  cases cf.nst with
  | false=>exact ⟨Av _ _ hjn,rfl⟩
  | true=>exact ⟨(Av _ _ hjn).trans (Av _ _ hjk),Av _ _ hjk⟩
 have hGO:GOk w.G w'.G:=by rw [eG]; exact GOk.refl _
 refine ⟨⟨by rw [en,F.n,hlen],by rw [etn,F.n,hlen],by rw [ens,hlen]; have:=F.ns; lia,by rw [esn,hlen]; have:=F.ns; lia,by rw [hlen]; lia,enst.trans F.nst,epat.trans F.pat,eslow.trans F.slow,etruth.trans F.truth,ewish.trans F.W,elE.trans F.libE,fun h=>?_,fun h=>?_,?_,fun i j hij hj=>?_,fun i hi=>?_,fun j hj=>?_,fun j hj=>?_⟩,?_,etold.trans R.told,eleft.trans R.left,fun s hs=>?_,fun j hj=>?_,?_⟩
 ·rw [hlen,← hw,h]
  show w.lib.deps++[.id (.task w.n)]=tl (c.phs.length + 1)
  rw [F.lib0 h,F.n,Afp]
 ·rw [← hw,h]; exact F.lib1 h
 ·rw [ecrew,F.crew,ens,List.range_succ,List.map_append]
  refine congr (congrArg _ (List.map_congr_left fun i hi=>?_)) ?_
  ·have hi:=List.mem_range.mp hi
   rw [hno (i + 1) (by rw [F.n]; have:=F.ns; lia)]
  ·show _=[AVal.int (w'.T (w.ns + 1)).num]
   have:w.ns + 1=w.n:=by rw [F.n]; exact F.ns
   rw [this,hnn]
 ·rw [hlen] at hj
  by_cases h:j=w.n
  ·rw [h,hnn,hno i (by lia)]
   exact Int.lt_of_le_of_lt (F.le i (by rw [← F.n]; lia)) hnum
  ·rw [hno i (by rw [F.n] at *; lia),hno j (by rw [F.n] at *; lia)]
   exact F.inc i j hij (by rw [F.n] at h; lia)
 ·rw [hlen] at hi
  rw [enums]
  by_cases h:i=w.n
  ·rw [h,hnn]; exact Int.le_refl _
  ·rw [hno i (by rw [F.n] at *; lia)]
   exact Int.le_of_lt (Int.lt_of_le_of_lt (F.le i (by rw [F.n] at h; lia)) hnum)
 ·rw [hlen] at hj
  rw [← hw]
  cases cf.nst with
  | false=>exact F.mrest j (by lia)
  | true =>
   show updN w.M k _ j=none
   rw [Av _ _ (by lia)]; exact F.mrest j (by lia)
 ·rw [eG]; exact F.fresh j (by rw [← egn]; exact hj)
 ·show (c.gots++[[]]).length + 1=_
  rw [hlen,List.length_append,hgl]; simp; lia
 ·show (w'.S s).got=iv ((c.gots++[[]]).getD s [])
  have hs':s < k + 1:=by
   have:s < (c.gots++[[]]).length:=hs
   rw [List.length_append,hgl] at this; exact this
  have hns:w.ns=k:=by have:=F.ns; lia
  rw [eS,List.getD_eq_getElem?_getD]
  by_cases h:s=k
  ·rw [h,hns,Al,List.getElem?_append_right (by lia),hgl,Nat.sub_self]; rfl
  ·rw [hns,Av _ _ h,List.getElem?_append_left (by lia),← List.getD_eq_getElem?_getD]
   have:(gS w k s).got=(w.S s).got:=by
    cases k with
    | zero=>rfl
    | succ i =>
     show (updN w.S i _ s).got=_
     by_cases hh:s=i
     ·subst hh; rw [Al]; rfl
     ·rw [Av _ _ hh]
   rw [this]; exact R.got s (by lia)
 ·rw [hlen] at hj ⊢
  rw [enow]
  by_cases hjn:j=c.phs.length
  ·-- the new one
   subst hjn
   rw [hpn]
   have hvn:view w' c.phs.length=⟨Tb num mas (if cf.pat then .id (.task k) else .none),none,[],w'.ms c.phs.length,w'.M c.phs.length,.none,.none, "begin"⟩:=by
    show (⟨w'.T c.phs.length,w'.q c.phs.length,w'.sv c.phs.length,_,_,if c.phs.length=0 then _ else _,if c.phs.length=0 then _ else _,if c.phs.length=0 then _ else _⟩:PV)=_
    have hns:c.phs.length - 1=w.ns:=by have:=F.ns; lia
    rw [if_neg (by lia),if_neg (by lia),if_neg (by lia),eT,eq,esv,eS,← F.n,X9 hkn,Al,Al,F.n,hns,Al]; rfl
   have hmn:w'.ms c.phs.length=[]∧w'.M c.phs.length=none:=by
    rw [← hw,← F.n]
    cases cf.nst with
    | false=>exact ⟨Al _ _ _,F.mrest _ (by rw [F.n]; exact Nat.le_refl _)⟩
    | true=>exact ⟨Al _ _ _,(Av _ _ (Ne.symm hkn)).trans (F.mrest _ (by rw [F.n]; exact Nat.le_refl _))⟩
   rw [hvn,hmn.1,hmn.2]
   have hk1:c.phs.length - 1=k:=by lia
   refine ⟨⟨rfl,rfl⟩,fun h=>(by cases h),rfl,rfl,?_,rfl,rfl,fun J=>rfl,fun h=>(by cases h),fun J=>rfl,fun J h=>?_,fun J=>⟨rfl,rfl⟩,fun J h=>absurd h (by lia),(if_neg (Nat.lt_irrefl _)).symm,fun h=>absurd h (by lia),fun J=>⟨by decide,by decide⟩,fun h=>(by cases h),fun J h=>(by cases h)⟩
   ·show (if cf.pat then AVal.id (.task k) else .none)=if Ph.B=Ph.B∧cf.pat=true then .id (.task (c.phs.length - 1)) else .none
    rw [hk1]; cases cf.pat <;> rfl
   ·rw [hk1,hpk] at h
    cases hpat:cf.pat <;> rw [hpat] at h <;> cases h
  ·have hj':j < c.phs.length:=by lia
   obtain ⟨d1,d2,d3⟩:=dict j hj'
   have hh:(c.grow k (if cf.pat then .ACT else .H)).hand j=c.hand j:=Qz j (by lia)
   have hh1:(c.grow k (if cf.pat then .ACT else .H)).hand (j - 1)=c.hand (j - 1):=Qz (j - 1) (by lia)
   have qs:w'.q j=w.q j∧w'.sv j=w.sv j:=by
    rw [eq,esv,Av _ _ (by rw [F.n]; exact hjn),Av _ _ (by rw [F.n]; exact hjn)]; exact ⟨rfl,rfl⟩
   have hpp1:(c.grow k (if cf.pat then .ACT else .H)).ph (j - 1)=c.ph (j - 1)∨j=0:=by
    by_cases h:j=0
    ·exact .inr h
    ·left; exact hpp (j - 1) (by lia) (by lia)
   rw [hh,hh1]
   by_cases hjk:j=k
   ·subst hjk
    have P:=R.proc j hj'
    rw [hp] at P
    rw [hpk]
    have htj:w'.T j=if cf.pat then (w.T j).acting else w.T j:=by rw [eT]; exact Agl hkn
    have hmm:(cf.nst=true→w'.ms j=[.id (.master j)]∧∃ num,w'.M j=some ⟨num,false,[.id (.task (j + 1))]⟩)∧(cf.nst=false→w'.ms j=[]∧w'.M j=none):=by
     have hm:=P.ms0 (by lia)
     have hjn:j≠w.n:=hkn
     have hn1:w.n=j + 1:=by rw [F.n]; lia
     rw [← hw]
     refine ⟨fun h=>?_,fun h=>?_⟩
     ·rw [h]
      refine ⟨(Av _ _ hjn).trans (Al _ _ _),w.nums + 1,?_⟩
      show updN w.M j _ j=_
      rw [Al,hn1]
     ·rw [h]
      exact ⟨(Av _ _ hjn).trans hm.1,hm.2⟩
    have hpx:(if cf.pat then Ph.ACT else Ph.H)≠.X∧(if cf.pat then Ph.ACT else Ph.H)≠.RA∧(if cf.pat then Ph.ACT else Ph.H)≠.D∧(if cf.pat then Ph.ACT else Ph.H)≠.B∧(if cf.pat then Ph.ACT else Ph.H)≠.A∧(if cf.pat then Ph.ACT else Ph.H)≠.W∧(if cf.pat then Ph.ACT else Ph.H)≠.RI:=by cases cf.pat <;> decide
    have hnx0:(view w j).nx=.none:=by have:=P.nx; rw [if_neg (by lia)] at this; exact this
    have hTj:(view w' j).t=w'.T j:=rfl
    refine ⟨?_,fun J=>by rw [d2]; exact P.hd rfl,?_,?_,?_,?_,?_,fun J=>qs.2.trans (P.sv0 (by decide)),fun h=>absurd h hpx.2.1,fun h=>qs.1.trans (P.q0 ?_),fun h1 h2=>?_,fun h=>?_,fun h1 h2=>?_,?_,fun J=>⟨hpx.2.2.2.1,hpx.2.2.2.2.1,hpx.2.1,hpx.2.2.1,hpx.2.2.2.2.2.1⟩,fun J=>⟨hpx.2.2.2.2.2.2,hpx.1⟩,fun h=>absurd h hpx.2.2.1,fun J h=>absurd h hpx.2.1⟩
    ·cases hpat:cf.pat with
     | false=>exact ⟨by rw [hTj,htj,hpat]; exact P.st.1,fun h=>by rw [d1,if_pos rfl] at h; cases h⟩
     | true=>exact ⟨by rw [hTj,htj,hpat]; rfl,by rw [d3]; exact P.st.2 hnx0⟩
    ·rw [hTj,htj]; cases cf.pat <;> exact P.rsd
    ·refine Eq.trans ?_ (if_neg hpx.2.2.1).symm
     rw [hTj,htj]; cases cf.pat <;> exact P.wake
    ·refine Eq.trans ?_ (if_neg fun h=>hpx.2.2.2.1 h.1).symm
     have ha:(w.T j).act=.none:=P.act.trans (if_neg fun h=>by cases h.1)
     rw [hTj,htj]; cases cf.pat <;> exact ha
    ·rw [hTj,htj]
     cases hpat:cf.pat with
     | false=>exact P.pend
     | true =>
      show (w.T j).pend + 1=1
      have:(w.T j).pend=0:=P.pend
      rw [this]; rfl
    ·rw [hTj,htj]; cases cf.pat <;> exact P.fail
    ·rcases hpp1 with e | e
     ·rw [e] at h; exact h
     ·exact .inl e
    ·rcases hpp1 with e | e
     ·rw [e] at h2
      obtain ⟨l,kk,a,b,d⟩:=P.q1 h1 h2
      exact ⟨l,kk,qs.1.trans a,hGO.list b,hGO.call d⟩
     ·exact absurd e h1
    ·have:cf.nst=false:=by cases hn:cf.nst with
      | false=>rfl
      | true=>exact absurd ⟨hn,by lia⟩ h
     exact hmm.2 this
    ·obtain ⟨a,num',b⟩:=hmm.1 h1
     exact ⟨a,num',by show w'.M j=_; rw [b,decide_eq_false hpx.1]⟩
    ·rw [d1,if_pos rfl,if_pos (by lia),F.n,hk]
   ·have P:=R.proc j hj'
    rw [hpp j hj' hjk]
    have hv:view w' j=view w j:=by
     obtain ⟨m1,m2⟩:=msM j hj' hjk
     rw [if_neg hjk] at d1
     have:view w' j=⟨w'.T j,w'.q j,w'.sv j,w'.ms j,w'.M j,(view w' j).nx,(view w' j).hd,(view w' j).ds⟩:=rfl
     rw [this,qs.1,qs.2,m1,m2,d1,d2,d3,eT,Agk (by rw [F.n]; exact hjn) hjk]; rfl
    rw [hv]
    have P':=P.mono hGO (show Od j _ ((c.grow k (if cf.pat then .ACT else .H)).ph (j - 1)) _ (c.hand (j - 1)) from hpp1.elim (fun e=>Gi e rfl) .inl)
    have hjlt:j + 1 < c.phs.length:=by lia
    exact ⟨P'.st,P'.hd,P'.rsd,P'.wake,P'.act,P'.pend,P'.fail,P'.sv0,P'.sv1,P'.q0,P'.q1,fun h=>P'.ms0 fun g=>h ⟨g.1,by lia⟩,fun a J=>P'.ms1 a hjlt,by rw [if_pos (by lia)]; have:=P'.nx; rw [if_pos hjlt] at this; exact this,P'.src,P'.stg,P'.dly,P'.ra⟩
 ·show w'.rests=w'.now + dOf cf _
  rw [erests,enow]
  have:dOf cf (c.grow k (if cf.pat then .ACT else .H))=dOf cf c:=by
   unfold dOf
   have h:=Pg (c:=c) (p:=if cf.pat then .ACT else .H) hks (cf.slow + 1)
   unfold Cst.ph at h hp
   rw [h]
   by_cases h1:cf.slow + 1=k
   ·rw [if_pos h1,h1,hp]; cases cf.pat <;> rfl
   ·rw [if_neg h1]
    by_cases h2:cf.slow + 1=c.phs.length
    ·rw [if_pos h2,h2,List.getD_eq_getElem?_getD,List.getElem?_eq_none (Nat.le_refl _)]; rfl
    ·rw [if_neg h2]
  rw [this]; exact R.cal
end
end
section
section
variable {cf:Conf} {c:Cst} {w:Ws} (R:Rep cf c w)
include R
theorem Rep.srcEnd (h1:1 < c.phs.length) (hp:c.ph 0=.RS) (hq1:c.ph 1≠.B∨True):∃ w',C7 [.id (.task 0)] (toA (w.s_shand .none))=some (.none,toA w')∧w'.steps=w.steps∧Rep cf (c.sp 0 .X) w':=by
 have F:=R.fr
 have h0:0 < c.phs.length:=by lia
 have P:=R.proc 0 h0
 rw [hp] at P
 have P1:=R.proc 1 h1
 have hn0:0 < w.n:=by rw [F.n]; exact h0
 have hq:w.q 0=none:=P.q0 (.inl rfl)
 have hsv:w.sv 0=[]:=P.sv0 (by decide)
 have hact:(w.T 0).act=.none:=P.act
 have hT1:(w.T 1).st ≠ "fresh" := by
  have h:=P1.st
  cases hp1:c.ph 1 <;> rw [hp1] at h
  case X=>exact absurd hp1 (P1.stg (by decide)).2
  all_goals
   have h:(w.T 1).st=_:=h.1
   rw [h]; decide
 have key:∀ w':Ws,(∀ j,view w' j=if j=0 then ⟨(w.T 0).over,w.q 0,w.sv 0,w.ms 0,w'.M 0,w.snext,.none,w.sdoes⟩ else view w j)→GOk w.G w'.G→(∀ j,w.gn + 1≤j→w'.G j=none)→w'.gn=w.gn + 1→w'.M=(if cf.nst then updN w.M 0 ((w.M 0).map fun m=>m.s_ended true) else w.M) →
   (∃ T M G g sh,w'={ w with T:=T,M:=M,G:=G,gn:=g,shand:=sh })→w'.T=updN w.T 0 (w.T 0).over→Rep cf (c.sp 0 .X) w':=by
  rintro w' hv hG hfr hgn hM ⟨T,M,G,g,sh,hw⟩ hTT
  have hnum:∀ k,(w'.T k).num=(w.T k).num:=fun k=>by rw [hTT]; exact E2 (T:=w.T) (i:=0) (t:=(w.T 0).over) rfl k
  refine R.step Cu rfl (F.same (by rw [hw]) (by rw [hw]) (by rw [hw]) (by rw [hw]) (by rw [hw]) (by rw [hw]) (by rw [hw]) (by rw [hw]) (by rw [hw]) (by rw [hw]) (by rw [hw]) hnum (by rw [hw]; exact Int.le_refl _) (fun k hk=>?_) fun j hj=>hfr j (by rw [← hgn]; exact hj)) (by rw [hw]; exact R.told) (by rw [hw]; exact R.left) (fun i hi=>by rw [hw]; exact R.got i hi) (fun j=>j=0) hG (.inl (by rw [hw])) ?_ (fun j hj hS=>⟨by rw [hv,if_neg hS],by rw [Bu h0,if_neg hS],rfl,Lk h0 (by rw [hp]; decide) (by rw [hp]; decide) (by decide) j⟩) fun j hj hS=>?_
  ·rw [hM]
   split
   ·rw [Av _ _ (by lia)]; exact F.mrest k hk
   ·exact F.mrest k hk
  ·rw [F6 h0 (by decide) (by rw [hp]; decide),hw]; exact R.cal
  ·subst hS
   rw [show (c.sp 0 .X).ph 0=.X by rw [Bu h0,if_pos rfl],hv,if_pos rfl]
   refine ⟨.inl rfl,fun h=>(by cases h),P.rsd,rfl,rfl,P.pend,P.fail,fun J=>hsv,fun h=>(by cases h),fun J=>hq,fun h=>absurd rfl h,fun h=>?_,fun h g=>?_,P.nx,fun J=>by decide,fun h=>absurd rfl h,fun h=>(by cases h),fun h=>absurd rfl h⟩
   ·obtain ⟨a,b⟩:=P.ms0 h
    refine ⟨a,?_⟩
    show w'.M 0=none
    rw [hM]
    split
    ·rw [Al]; have b:w.M 0=none:=b; rw [b]; rfl
    ·exact b
   ·obtain ⟨a,num,b⟩:=P.ms1 h g
    refine ⟨a,num,?_⟩
    show w'.M 0=_
    rw [hM,if_pos h,Al]
    have b:w.M 0=_:=b
    rw [b]; rfl
 have hGn:w.G w.gn=none:=F.fresh _ (Nat.le_refl _)
 by_cases hn:cf.nst=true
 ·obtain ⟨a,num,b⟩:=P.ms1 hn h1
  have b:w.M 0=_:=b
  refine ⟨_,Se (w:=w.s_shand .none) (i:=0) (j:=1) hn0 rfl hq hGn hsv hact a b rfl (by show 1 < w.n; rw [F.n]; exact h1) rfl (by decide) hT1,rfl,key _ (fun j=>?_) (GOk.new hGn) (fun j hj=>(Av _ _ (show j≠w.gn by lia)).trans (F.fresh j (by lia))) rfl ?_ ⟨_,_,_,_,_,rfl⟩ rfl⟩
  ·by_cases hj:j=0
   ·subst hj
    show (⟨updN w.T 0 _ 0,_,_,_,_,_,_,_⟩:PV)=_
    rw [Al]; rfl
   ·rw [if_neg hj]
    show (⟨updN w.T 0 _ j,_,_,_,updN w.M 0 _ j,if j=0 then _ else _,if j=0 then _ else _,if j=0 then _ else _⟩:PV)=⟨_,_,_,_,_,if j=0 then _ else _,if j=0 then _ else _,if j=0 then _ else _⟩
    rw [Av _ _ hj,Av _ _ hj]
    simp only [if_neg hj]; rfl
  ·rw [if_pos hn,b]; rfl
 ·obtain ⟨a,b⟩:=P.ms0 fun h=>hn h.1
  refine ⟨_,Sd (w:=w.s_shand .none) (i:=0) hn0 rfl hq hGn hsv hact a,rfl,key _ (fun j=>?_) (GOk.new hGn) (fun j hj=>(Av _ _ (show j≠w.gn by lia)).trans (F.fresh j (by lia))) rfl ?_ ⟨_,_,_,_,_,rfl⟩ rfl⟩
  ·by_cases hj:j=0
   ·subst hj
    show (⟨updN w.T 0 _ 0,_,_,_,_,_,_,_⟩:PV)=_
    rw [Al]; rfl
   ·rw [if_neg hj]
    show (⟨updN w.T 0 _ j,_,_,_,_,if j=0 then _ else _,if j=0 then _ else _,if j=0 then _ else _⟩:PV)=⟨_,_,_,_,_,if j=0 then _ else _,if j=0 then _ else _,if j=0 then _ else _⟩
    rw [Av _ _ hj]
    simp only [if_neg hj]; rfl
  ·rw [if_neg hn]; rfl
noncomputable def Ad6:Ph→Bool
 | .RI=>true
 | .B=>true
 | .RA=>true
 | .RM=>true
 | .RS=>true
 | .H=>true
 | .W=>true
 | _=>false
theorem Rep.ready_iff {k:Nat} (hk:k < c.phs.length):(w.T k).st = "ready" ↔ Ad6 (c.ph k)=true:=by
 have h:=(R.proc k hk).st
 cases hp:c.ph k <;> rw [hp] at h
 case X =>
  have h:(w.T k).st = "completed" ∨ (cf.nst=false∧(w.T k).st = "done"):=h
  rcases h with h | ⟨_,h⟩ <;> rw [h] <;> decide +kernel
 all_goals
  have h:(w.T k).st=_:=h.1
  rw [h]; decide +kernel
theorem Rep.delayed_iff {k:Nat} (hk:k < c.phs.length):(w.T k).st = "delayed" ↔ c.ph k=.D:=by
 have h:=(R.proc k hk).st
 cases hp:c.ph k <;> rw [hp] at h
 case X =>
  have h:(w.T k).st = "completed" ∨ (cf.nst=false∧(w.T k).st = "done"):=h
  rcases h with h | ⟨_,h⟩ <;> rw [h] <;> simp
 all_goals
  have h:(w.T k).st=_:=h.1
  rw [h]; simp
theorem Rep.ok (hne:cf.ws≠[]) (hs:w.steps.length < 800000):PickOk w cf.ws:=by
 have F:=R.fr
 refine ⟨F.W,hne,hs,fun i j hi hj h=>?_,fun k hk h=>?_⟩
 ·rw [F.n] at hi hj
  rcases Nat.lt_trichotomy i j with g | g | g
  ·have:=F.inc i j g hj; lia
  ·exact g
  ·have:=F.inc j i g hi; lia
 ·rw [F.n] at hk
  have:=(R.proc k hk).wake
  rw [if_neg (fun z=>h ((R.delayed_iff hk).mpr z))] at this
  exact this
theorem Rep.stages (k:Nat) (hk:k < w.n) (h:0 < k):E8 cf w c k=.act∨E8 cf w c k=.acc:=by
 rw [R.fr.n] at hk
 have:=(R.proc k hk).stg (by lia)
 unfold E8
 cases hp:c.ph k
 case A=>exact .inr rfl
 case X=>exact absurd hp this.2
 all_goals exact .inl rfl
theorem Rep.src0 (h0:0 < c.phs.length) (hn:cf.nst=true):E8 cf w c 0≠.done:=by
 have h:=(R.proc 0 h0).st
 unfold E8
 cases hp:c.ph 0 <;> rw [hp] at h
 case X =>
  have h:(w.T 0).st = "completed" ∨ (cf.nst=false∧(w.T 0).st = "done"):=h
  rcases h with h | ⟨h,_⟩
  ·dsimp only; rw [if_pos h]; decide
  ·rw [hn] at h; cases h
 all_goals first | (show Cl.act≠Cl.done; decide) | (show Cl.acc≠Cl.done; decide)
theorem Rep.kept {w₁:Ws} {st:List AVal} (h0:0 < c.phs.length) (A₁:Arr w₁ cf.nst (fin0 cf.nst (E8 cf w c))) (S:Same w w₁) (hM:w₁.M=w.M) (hT:∀ k,(Ew (E8 cf w c k)=false→w₁.T k=w.T k)∧(w₁.T k=w.T k∨w₁.T k=(w.T k).s_st "done")):Rep cf c (w₁.s_steps st):=by
 have F:=R.fr
 have S':=S
 obtain ⟨T,M,G,g,s,hw,l,kG⟩:=S'
 have hGO:GOk w.G w₁.G:=fun j o e=>.inl ((S.keepG j (by
  by_cases h:j < w.gn
  ·exact h
  ·have:=F.fresh j (by lia); rw [e] at this; cases this)).trans e)
 have hnum:∀ k,(w₁.T k).num=(w.T k).num:=fun k=>by rcases (hT k).2 with h | h <;> rw [h] <;> rfl
 have R':=R.step (c':=c) (w':=w₁.s_steps st) rfl rfl (F.same (by rw [hw]; rfl) (by rw [hw]; rfl) (by rw [hw]; rfl) (by rw [hw]; rfl) (by rw [hw]; rfl) (by rw [hw]; rfl) (by rw [hw]; rfl) (by rw [hw]; rfl) (by rw [hw]; rfl) (by rw [hw]; rfl) (by rw [hw]; rfl) hnum (by rw [hw]; exact Int.le_refl _) (fun k hk=>by show w₁.M k=none; rw [hM]; exact F.mrest k hk) A₁.fresh) (by rw [hw]; exact R.told) (by rw [hw]; exact R.left) (fun i hi=>by rw [hw]; exact R.got i hi) (fun j=>Ew (E8 cf w c j)=true) hGO (.inl (by rw [hw]; rfl)) (by rw [hw]; exact R.cal)
  (fun j hj hS=>⟨?_,rfl,rfl,Gi rfl rfl⟩) fun j hj hS=>?_
 ·exact R'
 ·have h1:=(hT j).1 (by cases h:Ew (E8 cf w c j) with
   | false=>rfl
   | true=>exact absurd h hS)
  have hd:w₁.q=w.q∧w₁.sv=w.sv∧w₁.ms=w.ms∧w₁.snext=w.snext∧w₁.S=w.S∧w₁.shand=w.shand∧w₁.sdoes=w.sdoes:=by rw [hw]; exact ⟨rfl,rfl,rfl,rfl,rfl,rfl,rfl⟩
  obtain ⟨d1,d2,d3,d4,d5,d6,d7⟩:=hd
  show (⟨w₁.T j,w₁.q j,w₁.sv j,w₁.ms j,w₁.M j,if j=0 then w₁.snext else (w₁.S (j - 1)).next,if j=0 then w₁.shand else (w₁.S (j - 1)).hand,if j=0 then w₁.sdoes else (w₁.S (j - 1)).does⟩:PV)=_
  rw [h1,d1,d2,d3,hM,d4,d5,d6,d7]; rfl
 ·have hX:c.ph j=.X:=by
   unfold E8 at hS
   cases hp:c.ph j <;> rw [hp] at hS <;> first | rfl | cases hS
  have P:=R.proc j hj
  rw [hX] at P
  have hd:w₁.q=w.q∧w₁.sv=w.sv∧w₁.ms=w.ms∧w₁.snext=w.snext∧w₁.S=w.S∧w₁.shand=w.shand∧w₁.sdoes=w.sdoes∧w₁.now=w.now:=by rw [hw]; exact ⟨rfl,rfl,rfl,rfl,rfl,rfl,rfl,rfl⟩
  obtain ⟨d1,d2,d3,d4,d5,d6,d7,d8⟩:=hd
  have hv:view (w₁.s_steps st) j={ view w j with t:=w₁.T j }:=by
   show (⟨w₁.T j,w₁.q j,w₁.sv j,w₁.ms j,w₁.M j,if j=0 then w₁.snext else (w₁.S (j - 1)).next,if j=0 then w₁.shand else (w₁.S (j - 1)).hand,if j=0 then w₁.sdoes else (w₁.S (j - 1)).does⟩:PV)=_
   rw [d1,d2,d3,hM,d4,d5,d6,d7]; rfl
  rw [hX,hv]
  have hst:Al2 cf w.now { view w j with t:=w₁.T j } .X:=by
   rcases (hT j).2 with h | h
   ·show (w₁.T j).st=_∨_; rw [h]; exact P.st
   ·have hjn:j < w₁.n:=by rw [S.n,F.n]; exact hj
    have:=A₁.sts j hjn
    have hc:E8 cf w c j=.comp:=by cases hh:E8 cf w c j <;> rw [hh] at hS <;> first | rfl | cases hS
    cases hn:cf.nst with
    | false=>exact .inr ⟨hn,by show (w₁.T j).st=_; rw [h]; rfl⟩
    | true =>
     unfold fin0 at this
     rw [hn,hc] at this
     have this:V1 (w₁.T j) .comp:=by simpa using this
     have this:(w₁.T j).st = "completed" := this
     rw [h] at this
     exact absurd this (by show ("done" : String)≠_; decide)
  have hf:(w₁.T j).rsd=(w.T j).rsd∧(w₁.T j).wake=(w.T j).wake∧(w₁.T j).act=(w.T j).act∧(w₁.T j).pend=(w.T j).pend∧(w₁.T j).failed=(w.T j).failed:=by rcases (hT j).2 with h | h <;> rw [h] <;> exact ⟨rfl,rfl,rfl,rfl,rfl⟩
  obtain ⟨f1,f2,f3,f4,f5⟩:=hf
  have P':=P.mono hGO (Gi rfl rfl)
  show Proc cf w₁.G w₁.now _ _ _ _ _ _ _
  rw [d8]
  exact ⟨hst,fun h=>(by cases h),f1.trans P.rsd,f2.trans P.wake,f3.trans P.act,f4.trans P.pend,f5.trans P.fail,P'.sv0,fun h=>(by cases h),P'.q0,P'.q1,P'.ms0,P'.ms1,P'.nx,P'.src,P'.stg,fun h=>(by cases h),fun J h=>(by cases h)⟩
end
end
section
section
variable {cf:Conf} {c:Cst} {w:Ws} (R:Rep cf c w)
include R
theorem Rep.pickReady (h0:0 < c.phs.length) (hne:cf.ws≠[]) (hs:w.steps.length < 800000) (hr:∃ k,k < c.phs.length∧Ad6 (c.ph k)=true) :
  ∃ w' k,k < c.phs.length∧Ad6 (c.ph k)=true∧Cg [.id .tasking] (toA w)=some (.id (.task k),toA w')∧w'.steps.length=w.steps.length + 1∧Rep cf c w':=by
 have F:=R.fr
 obtain ⟨k₀,hk₀,hr₀⟩:=hr
 have hmem:k₀∈Eb w:=F4.mpr ⟨by rw [F.n]; exact hk₀,(R.ready_iff hk₀).mpr hr₀⟩
 have hca:E8 cf w c k₀=.act:=by
  unfold E8
  cases hp:c.ph k₀ <;> rw [hp] at hr₀ <;> first | rfl | cases hr₀
 obtain ⟨w₁,k,st,h1,h2,h3,h4,h5,h6,h7⟩:=Ad0 (R.arr h0) (R.ok hne hs) ⟨k₀,by rw [F.n]; exact hk₀,hca⟩ R.stages (R.src0 h0) (fun h=>by rw [h] at hmem; cases hmem)
 obtain ⟨g1,g2⟩:=F4.mp h1
 rw [F.n] at g1
 exact ⟨_,k,g1,(R.ready_iff g1).mp g2,h2,h3,R.kept h0 h4 h5 h6 h7⟩
theorem Rep.pickRest (hne:cf.ws≠[]) (hs:w.steps.length < 800000) (hr:∀ k,k < c.phs.length→Ad6 (c.ph k)=false) (hd:cf.slow + 1 < c.phs.length) (hp:c.ph (cf.slow + 1)=.D) :
  ∃ w',Cg [.id .tasking] (toA w)=some (.id (.task (cf.slow + 1)),toA w')∧w'.steps.length=w.steps.length + 1∧Rep cf (c.sp (cf.slow + 1) .RM) w':=by
 have F:=R.fr
 have h0:0 < c.phs.length:=by lia
 have P:=R.proc _ hd
 rw [hp] at P
 have hrd:Eb w=[]:=by
  cases h:Eb w with
  | nil=>rfl
  | cons k l =>
   have:k∈Eb w:=by rw [h]; simp
   obtain ⟨g1,g2⟩:=F4.mp this
   rw [F.n] at g1
   have:=hr k g1
   rw [(R.ready_iff g1).mp g2] at this
   cases this
 obtain ⟨w₃,st,h2,h3,h4,h5,h6,h7⟩:=Ag2 (d:=cf.slow + 1) (t:=w.now + 1) (R.arr h0) (R.ok hne hs) R.stages (R.src0 h0) hrd (by rw [F.n]; exact hd) P.st.1 P.wake (by lia) fun k hk hkd h=>by
  rw [F.n] at hk
  exact hkd ((R.proc k hk).dly ((R.delayed_iff hk).mp h))
 refine ⟨_,h2,h3,?_⟩
 have R₂:Rep cf (c.sp (cf.slow + 1) .RM) ((w.s_now (w.now + 1)).setT (cf.slow + 1) ((w.T (cf.slow + 1)).woken .none .none)):=by
  refine R.step Cu rfl (F.same rfl rfl rfl rfl rfl rfl rfl rfl rfl rfl rfl (E2 rfl) (Int.le_refl _) F.mrest F.fresh) R.told R.left R.got (fun j=>j=cf.slow + 1) (GOk.refl _) (.inr fun k hk hS h=>hS ((R.proc k hk).dly h)) ?_ (fun j hj hS=>⟨(vT hS).trans rfl,by rw [Bu hd,if_neg hS],rfl,Lk hd (by rw [hp]; decide) (by rw [hp]; decide) (by decide) j⟩) fun j hj hS=>?_
  ·show w.rests=w.now + 1 + dOf cf _
   have e1:dOf cf (c.sp (cf.slow + 1) .RM)=0:=by
    unfold dOf
    have:=Bu (c:=c) (p:=.RM) hd (cf.slow + 1)
    unfold Cst.ph at this
    rw [this,if_pos rfl]; rfl
   have e2:=R.cal
   have e3:c.phs.getD (cf.slow + 1) .X=.D:=hp
   rw [if_pos e3] at e2
   rw [e1]; lia
  ·subst hS
   rw [show (c.sp (cf.slow + 1) .RM).ph (cf.slow + 1)=.RM by rw [Bu hd,if_pos rfl],vT']
   exact P.own (GOk.refl _) (Op hd) ⟨rfl,P.st.2⟩ (fun J=>P.hd rfl) rfl rfl P.act P.pend P.fail (P.sv0 (by decide)) rfl rfl rfl rfl (by decide) (by decide) (by decide) (fun J=>by decide) (fun J=>by decide) (fun h=>by cases h)
 have hcls:∀ k,E8 cf ((w.s_now (w.now + 1)).setT (cf.slow + 1) ((w.T (cf.slow + 1)).woken .none .none)) (c.sp (cf.slow + 1) .RM) k=E8 cf w c k:=fun k=>by
  unfold E8
  rw [Bu hd]
  by_cases h:k=cf.slow + 1
  ·subst h; rw [if_pos rfl,hp]
  ·rw [if_neg h]
   have e:((w.s_now (w.now + 1)).setT (cf.slow + 1) ((w.T (cf.slow + 1)).woken .none .none)).T k=w.T k:=Av _ _ h
   rw [e]
 refine R₂.kept (by rw [Cu]; exact h0) (by rw [show E8 cf ((w.s_now (w.now + 1)).setT (cf.slow + 1) ((w.T (cf.slow + 1)).woken .none .none)) (c.sp (cf.slow + 1) .RM)=E8 cf w c from funext hcls]; exact h4) ?_ h6 fun k=>?_
 ·obtain ⟨T,M,G,g,s,hw,l,kG⟩:=h5
  exact ⟨T,M,G,g,s,hw,l,kG⟩
 ·rw [hcls]
  obtain ⟨i1,i2,i3⟩:=h7 k
  by_cases h:k=cf.slow + 1
  ·have:w₃.T k=((w.s_now (w.now + 1)).setT (cf.slow + 1) ((w.T (cf.slow + 1)).woken .none .none)).T k:=by
    rw [i3 h]
    subst h
    exact (Al _ _ _).symm
   exact ⟨fun J=>this,.inl this⟩
  ·have e:((w.s_now (w.now + 1)).setT (cf.slow + 1) ((w.T (cf.slow + 1)).woken .none .none)).T k=w.T k:=Av _ _ h
   rw [e]
   exact ⟨i1 h,i2 h⟩
theorem Rep.pickEnd (h1:1 < c.phs.length) (hX:c.ph 0=.X) (hA:∀ k,k < c.phs.length→0 < k→c.ph k=.A):∃ w',Cg [.id .tasking] (toA w)=some (.none,toA w')∧Same w w':=by
 have F:=R.fr
 have h0:0 < c.phs.length:=by lia
 refine Aiy (R.arr h0) (fun k hk h=>?_) (by rw [F.n]; exact h1) ?_ fun k hk h=>?_
 ·rw [F.n] at hk
  have P:=R.proc k hk
  have hk0:k≠0:=fun z=>by
   subst z
   unfold E8 at h
   rw [hX] at h
   dsimp only at h
   split at h <;> cases h
  have hp:=hA k hk (by lia)
  rw [hp] at P
  refine ⟨P.q0 (.inr ?_),P.sv0 (by decide),P.act⟩
  by_cases h':k - 1=0
  ·rw [h',hX]; decide
  ·rw [hA (k - 1) (by lia) (by lia)]; decide
 ·have h:=(R.proc 0 h0).st
  rw [hX] at h
  have h:(w.T 0).st = "completed" ∨ (cf.nst=false∧(w.T 0).st = "done"):=h
  unfold E8
  rw [hX]
  dsimp only
  rcases h with h | ⟨h,h'⟩
  ·rw [if_pos h]; exact .inl rfl
  ·right; refine ⟨h,?_⟩; rw [h']; rfl
 ·rw [F.n] at hk
  unfold E8
  rw [hA k hk h]
end
end
section
noncomputable def Aj0:Nat→AVal
 | 0=>.id .source
 | s + 1=>.id (.stage s)
noncomputable def Oj (pat:Bool) (c:Cst) (k:Nat):Option Cst :=
 if k + 1=c.phs.length then
  if k < 30 then (let c1:=c.grow k (if pat then .ACT else .H); if pat then some c1 else some (c1.sp k .C)) else none
 else match c.ph (k + 1) with
  | .A=>some ((c.sp k .M).sp (k + 1) .RA)
  | .X=>none
  | _=>some (c.sp k .C)
theorem Anh {w:Ws} {nst pat:Bool} {k:Nat} {tp:TS} (hk:∀ s,k=s + 1→s < w.ns):∀ s,k=s + 1→(w.grow nst pat k tp (gS w k) (gx w k)).S s=(w.S s).s_next (.id (.task w.n)):=fun s e=>by
 subst e
 have h:=hk s rfl
 have:(updN (updN w.S s ((w.S s).s_next (.id (.task w.n)))) w.ns M2) s=(w.S s).s_next (.id (.task w.n)):=by rw [Av _ _ (Nat.ne_of_lt h),Al]
 cases nst <;> exact this
theorem Jm {cf:Conf} {N:Nat} {w:Ws} (F:Frm cf N w) {b:Bool} (h:cf.nst=b):w.nested=b:=F.nst.trans h
section
variable {cf:Conf} {c:Cst} {w:Ws} (R:Rep cf c w)
include R
theorem Adq {k:Nat} (hk:k + 1=c.phs.length) (hl:k < 30) (hp:c.ph k=.H) (hpat:cf.pat=true):Bp [.id .mill,.id (.task k),Aj0 k] (toA w)=some (.none,toA (w.grow cf.nst true k (w.T k) (gS w k) (gx w k))):=by
 have F:=R.fr
 have P:=R.proc k (by lia)
 rw [hp] at P
 have a1:w.tn=w.n:=F.tn.trans F.n.symm
 have a2:w.n < 50:=by rw [F.n]; lia
 have a3:w.sn=w.ns:=by have:=F.sn; have:=F.ns; lia
 have a4:w.ns < 50:=by have:=F.ns; lia
 have a5:k < w.n:=by rw [F.n]; lia
 have a6:w.crew.length < 1000000:=by rw [F.crew,List.length_map,List.length_range]; lia
 have a7:w.pat=true:=F.pat.trans hpat
 have hm:=P.ms0 (by lia)
 have hnx:(view w k).nx=.none:=by have:=P.nx; rw [if_neg (by lia)] at this; exact this
 cases hn:cf.nst with
 | false =>
  have a8:w.lib.deps.length < 1000000:=by rw [F.lib0 hn,E1]; lia
  cases k with
  | zero=>exact Vq a1 a2 a3 a4 a5 rfl a6 (Jm F hn) a7 a8 hnx
  | succ s=>exact Vu a1 a2 a3 a4 a5 rfl a6 (Jm F hn) a7 a8 (by have:=F.ns; lia) rfl hnx
 | true =>
  cases k with
  | zero=>exact Vs a1 a2 a3 a4 a5 rfl a6 (Jm F hn) a7 hm.2 hm.1 hnx
  | succ s=>exact Vw a1 a2 a3 a4 a5 rfl a6 (Jm F hn) a7 hm.2 hm.1 (by have:=F.ns; lia) rfl hnx
theorem Adp {k:Nat} (hk:k + 1=c.phs.length) (hl:k < 30) (hp:c.ph k=.H) (hpat:cf.pat=false):Bp [.id .mill,.id (.task k),Aj0 k] (toA w)=some (.none,toA ((sdW (w.grow cf.nst false k (w.T k) (gS w k) (gx w k)) k).callB k w.n (w.T k) (.flist [.int (c.hand k)]))):=by
 have F:=R.fr
 have P:=R.proc k (by lia)
 rw [hp] at P
 have a1:w.tn=w.n:=F.tn.trans F.n.symm
 have a2:w.n < 50:=by rw [F.n]; lia
 have a3:w.sn=w.ns:=by have:=F.sn; have:=F.ns; lia
 have a4:w.ns < 50:=by have:=F.ns; lia
 have a5:k < w.n:=by rw [F.n]; lia
 have a6:w.crew.length < 1000000:=by rw [F.crew,List.length_map,List.length_range]; lia
 have a7:w.pat=false:=F.pat.trans hpat
 have hm:=P.ms0 (by lia)
 have hnx:(view w k).nx=.none:=by have:=P.nx; rw [if_neg (by lia)] at this; exact this
 have hhd:(view w k).hd=.int (c.hand k):=P.hd rfl
 have g1:w.G w.gn=none:=F.fresh _ (Nat.le_refl _)
 have g2:w.G (w.gn + 1)=none:=F.fresh _ (Nat.le_succ _)
 have hS:=Anh (w:=w) (nst:=cf.nst) (pat:=false) (k:=k) (tp:=w.T k) fun s e=>by have:=F.ns; lia
 cases hn:cf.nst with
 | false =>
  have a8:w.lib.deps.length < 1000000:=by rw [F.lib0 hn,E1]; lia
  cases k with
  | zero=>exact Vp a1 a2 a3 a4 a5 rfl a6 (Jm F hn) a7 a8 hnx hhd g1 g2
  | succ s =>
   have e:=Vt a1 a2 a3 a4 a5 rfl a6 (Jm F hn) a7 a8 (by have:=F.ns; lia) rfl hnx hhd g1 g2
   have h:=hS s rfl
   rw [hn] at h
   show _=some (AVal.none,toA (((w.grow false false (s + 1) (w.T (s + 1)) (gS w (s + 1)) (gx w (s + 1))).setS s (((w.grow false false (s + 1) (w.T (s + 1)) (gS w (s + 1)) (gx w (s + 1))).S s).s_does "send")).callB (s + 1) w.n (w.T (s + 1)) (.flist [.int (c.hand (s + 1))])))
   rw [h]
   exact e
 | true =>
  cases k with
  | zero=>exact Vr a1 a2 a3 a4 a5 rfl a6 (Jm F hn) a7 hm.2 hm.1 hnx hhd g1 g2
  | succ s =>
   have e:=Vv a1 a2 a3 a4 a5 rfl a6 (Jm F hn) a7 hm.2 hm.1 (by have:=F.ns; lia) rfl hnx hhd g1 g2
   have h:=hS s rfl
   rw [hn] at h
   show _=some (AVal.none,toA (((w.grow true false (s + 1) (w.T (s + 1)) (gS w (s + 1)) (gx w (s + 1))).setS s (((w.grow true false (s + 1) (w.T (s + 1)) (gS w (s + 1)) (gx w (s + 1))).S s).s_does "send")).callB (s + 1) w.n (w.T (s + 1)) (.flist [.int (c.hand (s + 1))])))
   rw [h]
   exact e
theorem Yj {k:Nat} (hk:k < c.phs.length) (hX:c.ph k≠.X):(w.T k).st ≠ "completed" ∧ (w.T k).st ≠ "done" := by
 have h:=(R.proc k hk).st
 cases hp:c.ph k <;> rw [hp] at h
 case X=>exact absurd hp hX
 all_goals
  have h:(w.T k).st=_:=h.1
  rw [h]; decide
theorem Ali {k:Nat} (hk:k < c.phs.length) (hX:c.ph k≠.X) (hA:c.ph k≠.A):(w.T k).st ≠ "accepting" := by
 have h:=(R.proc k hk).st
 cases hp:c.ph k <;> rw [hp] at h
 case X=>exact absurd hp hX
 case A=>exact absurd hp hA
 all_goals
  have h:(w.T k).st=_:=h.1
  rw [h]; decide
theorem Kv {k:Nat} {c':Cst} (hk:k < c.phs.length) (hp:c.ph k=.H) (h:Oj cf.pat c k=some c'):∃ w',Bp [.id .mill,.id (.task k),Aj0 k] (toA w)=some (.none,toA w')∧w'.steps=w.steps∧Rep cf c' w':=by
 have F:=R.fr
 have P:=R.proc k hk
 rw [hp] at P
 have hhd:(view w k).hd=.int (c.hand k):=P.hd rfl
 have g1:w.G w.gn=none:=F.fresh _ (Nat.le_refl _)
 have g2:w.G (w.gn + 1)=none:=F.fresh _ (Nat.le_succ _)
 have sds:∀ w:Ws,(sdW w k).steps=w.steps:=fun w=>by cases k <;> rfl
 have grs:∀ b,(w.grow cf.nst b k (w.T k) (gS w k) (gx w k)).steps=w.steps:=fun b=>by cases cf.nst <;> rfl
 unfold Oj at h
 (set_option tactic.hygienic true in split at h)
 ·rename_i hlast
  (set_option tactic.hygienic true in split at h)
  ·rename_i hl
   have RG:=R.grow hlast hl hp
   cases hpat:cf.pat with
   | true =>
    rw [hpat] at h RG
    cases h
    exact ⟨_,Adq R hlast hl hp hpat,grs true,RG⟩
   | false =>
    rw [hpat] at h RG
    cases h
    have e:=Adp R hlast hl hp hpat
    have hph:(c.grow k .H).ph k=.H:=by rw [Pg hk,if_pos rfl]
    have hlen:(c.grow k .H).phs.length=c.phs.length + 1:=by
     show (c.phs.set k _++[Ph.B]).length=_
     rw [List.length_append,List.length_set]; rfl
    have RG:Rep cf (c.grow k .H) (w.grow cf.nst false k (w.T k) (gS w k) (gx w k)):=RG
    have RB:=Rep.callB RG (k:=k) (by rw [hlen]; lia) hph
    refine ⟨_,e,?_,?_⟩
    ·show (sdW _ k).steps=_
     rw [sds,grs]
    ·have hh:(c.grow k .H).hand k=c.hand k:=Qz k (by have:=R.len; lia)
     have hT:(w.grow cf.nst false k (w.T k) (gS w k) (gx w k)).T k=w.T k:=by
      have:(w.grow cf.nst false k (w.T k) (gS w k) (gx w k)).T k=Rv w.T w.n k (if cf.nst then w.nums + 1 + 1 else w.nums + 1) (if cf.nst then .id (.master k) else .id .lib) (w.T k) false k:=by cases cf.nst <;> rfl
      rw [this]
      exact Av _ _ (by rw [F.n]; lia)
     rw [hh,hT] at RB
     have hn1:w.n=k + 1:=by rw [F.n]; lia
     rw [hn1]
     exact RB
  ·cases h
 ·rename_i hnl
  have hk1:k + 1 < c.phs.length:=by lia
  have hnx:(view w k).nx=.id (.task (k + 1)):=by have:=P.nx; rw [if_pos hk1] at this; exact this
  have P1:=R.proc (k + 1) hk1
  have hkn:k < w.n:=by rw [F.n]; exact hk
  have hkn1:k + 1 < w.n:=by rw [F.n]; exact hk1
  (set_option tactic.hygienic true in split at h)
  ·rename_i hA
   cases h
   have hX:c.ph (k + 1)≠.X:=by rw [hA]; decide
   obtain ⟨n1,n2⟩:=Yj R hk1 hX
   rw [hA] at P1
   refine ⟨_,?_,?_,R.callA hk1 hp hA⟩
   ·cases k with
    | zero=>exact Xi hkn rfl hkn1 (by lia) rfl hnx hhd g1 n1 n2 (P1.sv0 (by decide)) P1.st.1 P1.st.2.1
    | succ s=>exact Xk hkn rfl hkn1 (by lia) rfl (by have:=F.ns; lia) rfl hnx hhd g1 n1 n2 (P1.sv0 (by decide)) P1.st.1 P1.st.2.1
   ·show (sdW w k).steps=_
    exact sds w
  ·cases h
  ·rename_i hA hX
   cases h
   obtain ⟨n1,n2⟩:=Yj R hk1 (fun z=>hX z)
   have n3:=Ali R hk1 (fun z=>hX z) (fun z=>hA z)
   have hq:w.q (k + 1)=none:=P1.q0 (.inr (by rw [Nat.add_sub_cancel,hp]; decide))
   refine ⟨_,?_,?_,R.callB hk1 hp⟩
   ·cases k with
    | zero=>exact Xj hkn rfl hkn1 (by lia) rfl hnx hhd g1 n1 n2 hq n3 g2
    | succ s=>exact Xl hkn rfl hkn1 (by lia) rfl (by have:=F.ns; lia) rfl hnx hhd g1 n1 n2 hq n3 g2
   ·show (sdW w k).steps=_
    exact sds w
noncomputable def Yw (c:Cst) (s:Nat):Cst:=if c.ph s=.C then (c.sp s .M).sp (s + 1) .RA else c.sp (s + 1) .A
theorem Ln {s:Nat} (hk:s + 1 < c.phs.length) (hp:c.ph (s + 1)=.W):∃ w',Dk [.id .tasking,.id (.task (s + 1)),Me,.bool false] (toA w)=some (.none,toA w')∧w'.steps=w.steps∧Rep cf (Yw c s) w':=by
 have F:=R.fr
 have P:=R.proc (s + 1) hk
 have hkn:s + 1 < w.n:=by rw [F.n]; exact hk
 unfold Yw
 (set_option tactic.hygienic true in split)
 ·rename_i hC
  rw [hp] at P
  obtain ⟨l,kk,q1,q2,co,q3,q4,q5⟩:=P.q1 (by lia) (by rw [Nat.add_sub_cancel]; exact hC)
  rw [Nat.add_sub_cancel] at q4 q5
  refine ⟨_,Aem (tc:=w.T s) hkn rfl q1 q2 q3 (by rw [q4]; lia) (by rw [q4]) (by rw [q4]; lia) (P.sv0 (by decide)),rfl,R.waitB (l:=l) hk hp hC q3 q4 q5⟩
 ·rename_i hC
  rw [hp] at P
  exact ⟨_,Ael hkn rfl (P.q0 (.inr (by rw [Nat.add_sub_cancel]; exact hC))),rfl,R.waitA hk hp⟩
end
end
section
noncomputable def Aj2 (pat:Bool) (c:Cst):Option Cst:=match c.ph 0 with
 | .RI=>(match c.left with
  | []=>none
  | x :: xs=>Oj pat ((c.tell x xs).sp 0 .H) 0)
 | .RS=>if 1 < c.phs.length then (match c.left with
  | []=>some (c.sp 0 .X)
  | x :: xs=>Oj pat ((c.tell x xs).sp 0 .H) 0) else none
 | .RM=>Oj pat (c.sp 0 .H) 0
 | _=>none
noncomputable def Akb (pat:Bool) (slow:Nat) (c:Cst) (s:Nat):Option Cst:=match c.ph (s + 1) with
 | .B=>if pat then (if c.ph s=.ACT then some (Yw ((c.sp s .RM).sp (s + 1) .W) s) else none) else some (Yw (c.sp (s + 1) .W) s)
 | .RS=>some (Yw (c.sp (s + 1) .W) s)
 | .RM=>Oj pat (c.sp (s + 1) .H) (s + 1)
 | .RA=>(match c.gots.getD s []++[c.hand s] with
  | []=>none
  | g :: _=>if g=0 then none else
   if (c.hand s).fmod g=0 then some (Yw (((c.take s (c.hand s)).sp s .RS).sp (s + 1) .W) s)
   else if slow=s then some ((((c.take s (c.hand s)).sp s .RS).sp (s + 1) .H).sp (s + 1) .D)
   else Oj pat (((c.take s (c.hand s)).sp s .RS).sp (s + 1) .H) (s + 1))
 | _=>none
theorem Aog {pat:Bool} {slow s:Nat} {c c':Cst} (h:Akb pat slow c s=some c'):c.ph (s + 1)=.B∨c.ph (s + 1)=.RM∨c.ph (s + 1)=.RS∨c.ph (s + 1)=.RA:=by
 unfold Akb at h
 cases hp:c.ph (s + 1) <;> rw [hp] at h <;> first | (cases h; done) | simp
theorem Aod {pat:Bool} {c c':Cst} (h:Aj2 pat c=some c'):c.ph 0=.RI∨c.ph 0=.RM∨c.ph 0=.RS:=by
 unfold Aj2 at h
 cases hp:c.ph 0 <;> rw [hp] at h <;> first | (cases h; done) | simp
section
variable {cf:Conf} {c:Cst} {w:Ws} (R:Rep cf c w)
include R
theorem Alw {c':Cst} (h0:0 < c.phs.length) (hb:c.told.length < 1000) (hl:∀ x xs,c.left=x :: xs→True) (h:Aj2 cf.pat c=some c') :
  ∃ w',Dd [.id .mill,.id (.task 0),.id .source] (toA w)=some (.none,toA w')∧w'.steps=w.steps∧Rep cf c' w':=by
 have P:=R.proc 0 h0
 have ht:w.told.length < 1000000:=by rw [R.told,List.length_map]; lia
 rcases Aod h with hp | hp | hp <;> (unfold Aj2 at h; rw [hp] at h P)
 case inl =>
  dsimp only at h
  cases hcl:c.left with
  | nil=>rw [hcl] at h; cases h
  | cons x xs =>
   rw [hcl] at h
   dsimp only at h
   have R₁:=R.tell h0 hcl (.inl hp)
   obtain ⟨w',e,es,R'⟩:=Kv R₁ (k:=0) (by rw [Cu]; exact h0) (by rw [Bu (by exact h0),if_pos rfl]) h
   have hl':w.left=.int x :: iv xs:=by rw [R.left,hcl]; rfl
   exact ⟨w',Ac0 (r:=(.none,toA w')) P.st.2.2 P.st.2.1 hl' ht e,es,R'⟩
 case inr.inl =>
  have R₁:=R.hH h0 hp
  obtain ⟨w',e,es,R'⟩:=Kv R₁ (k:=0) (by rw [Cu]; exact h0) (by rw [Bu h0,if_pos rfl]) h
  exact ⟨w',Aen (r:=(.none,toA w')) P.st.2 (P.hd rfl) e,es,R'⟩
 case inr.inr =>
  dsimp only at h
  (set_option tactic.hygienic true in split at h)
  ·rename_i h1
   cases hcl:c.left with
   | nil =>
    rw [hcl] at h
    cases h
    obtain ⟨w',e,es,R'⟩:=R.srcEnd h1 hp (.inr trivial)
    exact ⟨w',Ahc (r:=(.none,toA w')) P.st.2 (by rw [R.left,hcl]; rfl) e,es,R'⟩
   | cons x xs =>
    rw [hcl] at h
    dsimp only at h
    have R₁:=R.tell h0 hcl (.inr ⟨hp,h1⟩)
    obtain ⟨w',e,es,R'⟩:=Kv R₁ (k:=0) (by rw [Cu]; exact h0) (by rw [Bu (by exact h0),if_pos rfl]) h
    have hl':w.left=.int x :: iv xs:=by rw [R.left,hcl]; rfl
    exact ⟨w',Aeo (r:=(.none,toA w')) P.st.2 hl' ht e,es,R'⟩
  ·cases h
theorem Alx {s:Nat} {c':Cst} (hk:s + 1 < c.phs.length) (hb:(c.gots.getD s []).length < 1000) (h:Akb cf.pat cf.slow c s=some c') :
  ∃ w',C1 [.id .mill,.id (.task (s + 1)),.int s] (toA w)=some (.none,toA w')∧w'.steps=w.steps∧Rep cf c' w':=by
 have F:=R.fr
 have P:=R.proc (s + 1) hk
 have hsn:s < w.sn:=by have:=F.sn; lia
 have hsl:w.sn < 1000:=by have:=F.sn; have:=F.lt; lia
 have hsp:s < w.ns:=by have:=F.ns; lia
 have hkn:s + 1 < w.n:=by rw [F.n]; exact hk
 have hsg:s < c.gots.length:=by have:=R.len; lia
 rcases Aog h with hp | hp | hp | hp <;> (unfold Akb at h; rw [hp] at h P)
 case inl =>
  have hd:(w.S s).does = "begin" := P.st.2
  cases hpat:cf.pat with
  | true =>
   rw [hpat] at h
   dsimp only at h
   rw [if_pos rfl] at h
   (set_option tactic.hygienic true in split at h)
   ·rename_i hA
    cases h
    have R₁:=R.end1 hk hp hA
    obtain ⟨w',e,es,R'⟩:=Ln R₁ (s:=s) (by rw [Cu,Cu]; exact hk) (by rw [Bu (by rw [Cu]; exact hk),if_pos rfl])
    have Ps:=R.proc s (by lia)
    rw [hA] at Ps
    have ha:(w.T (s + 1)).act=.id (.task s):=by have:=P.act; rw [if_pos ⟨rfl,hpat⟩] at this; exact this
    exact ⟨w',Sf (r:=(.none,toA w')) hsn hsl hsp rfl hd (Ahb hkn rfl ha (by rw [F.n]; lia) (by lia) rfl Ps.pend Ps.fail Ps.st.1) hsp rfl e,es,R'⟩
   ·cases h
  | false =>
   rw [hpat] at h
   dsimp only at h
   rw [if_neg (by decide)] at h
   cases h
   have R₁:=R.end0 hk hp hpat
   obtain ⟨w',e,es,R'⟩:=Ln R₁ (s:=s) (by rw [Cu]; exact hk) (by rw [Bu hk,if_pos rfl])
   have ha:(w.T (s + 1)).act=.none:=by have:=P.act; rw [if_neg (by rw [hpat]; simp)] at this; exact this
   exact ⟨w',Sf (r:=(.none,toA w')) hsn hsl hsp rfl hd (Ro hkn rfl ha) hsp rfl e,es,R'⟩
 case inr.inl =>
  have R₁:=R.hH hk hp
  obtain ⟨w',e,es,R'⟩:=Kv R₁ (k:=s + 1) (by rw [Cu]; exact hk) (by rw [Bu hk,if_pos rfl]) h
  exact ⟨w',Aep (r:=(.none,toA w')) hsn hsl hsp rfl P.st.2 e,es,R'⟩
 case inr.inr.inl =>
  cases h
  have R₁:=R.rsW hk hp
  obtain ⟨w',e,es,R'⟩:=Ln R₁ (s:=s) (by rw [Cu]; exact hk) (by rw [Bu hk,if_pos rfl])
  exact ⟨w',Aeq (r:=(.none,toA w')) hsn hsl hsp rfl P.st.2 e,es,R'⟩
 case inr.inr.inr =>
  dsimp only at h
  obtain ⟨kk,v1,v2,co,v3,v4,v5⟩:=P.sv1 rfl
  rw [Nat.add_sub_cancel] at v4 v5
  have hgot:(w.S s).got=iv (c.gots.getD s []):=R.got s hsg
  have hd:(w.S s).does = "wait" := P.st.2
  have hca:Ql w.G kk s (c.hand s):=⟨co,v3,v4,v5⟩
  have hcc:co.c < w.n:=by rw [v4]; lia
  have hgl:(w.S s).got.length < 1000000:=by rw [hgot,List.length_map]; lia
  have hTc:w.T co.c=w.T s:=by rw [v4]
  (set_option tactic.hygienic true in split at h)
  ·cases h
  ·rename_i g gr hg
   have hg0:((w.S s).got++[AVal.int (c.hand s)])[0]?=some (.int g):=by
    have:(w.S s).got++[AVal.int (c.hand s)]=iv (g :: gr):=by rw [← hg,hgot]; simp [iv]
    rw [this]; rfl
   (set_option tactic.hygienic true in split at h)
   ·cases h
   ·rename_i hgne
    have metE:∀ ss:SS,w.met s (s + 1) kk co (w.T s) ss=w.met s (s + 1) kk co (w.T s) ss:=fun _=>rfl
    (set_option tactic.hygienic true in split at h)
    ·rename_i hmod
     cases h
     have R₁:=R.met (p':=.W) (ss:=(((w.S s).s_got ((w.S s).got++[.int (c.hand s)])).s_does "wait").s_hand .none) hk hp hca v3 v4 rfl rfl rfl (by decide) ⟨P.st.1,rfl,rfl⟩ (fun h=>by cases h)
     obtain ⟨w',e,es,R'⟩:=Ln R₁ (s:=s) (by rw [Cu,Cu]; exact hk) (by rw [Bu (by rw [Cu]; exact hk),if_pos rfl])
     refine ⟨w',Ahd (r:=(.none,toA w')) (tc:=w.T s) hsn hsl hsp rfl hd hkn rfl v2 v3 v5 v1 hcc hTc hgl hg0 hgne hmod ?_,es,R'⟩
     rw [U1]; exact e
    ·rename_i hmod
     have R₁:=R.met (p':=.H) (ss:=(((w.S s).s_got ((w.S s).got++[.int (c.hand s)])).s_hand (.int (c.hand s))).s_does "make") hk hp hca v3 v4 rfl rfl rfl (by decide) ⟨P.st.1,fun _=>rfl⟩ (fun _=>rfl)
     have hlen:s + 1 < (((c.take s (c.hand s)).sp s .RS).sp (s + 1) .H).phs.length:=by rw [Cu,Cu]; exact hk
     have hph:(((c.take s (c.hand s)).sp s .RS).sp (s + 1) .H).ph (s + 1)=.H:=by rw [Bu (by rw [Cu]; exact hk),if_pos rfl]
     (set_option tactic.hygienic true in split at h)
     ·rename_i hslow
      cases h
      have hds:(view (w.met s (s + 1) kk co (w.T s) ((((w.S s).s_got ((w.S s).got++[.int (c.hand s)])).s_hand (.int (c.hand s))).s_does "make")) (s + 1)).ds = "make" := congrArg SS.does (Al w.S s _)
      have RD:=R₁.toD hlen hph hslow hds
      have hTk:(w.met s (s + 1) kk co (w.T s) ((((w.S s).s_got ((w.S s).got++[.int (c.hand s)])).s_hand (.int (c.hand s))).s_does "make")).T (s + 1)=w.T (s + 1):=Av _ _ (by rw [v4]; lia)
      rw [hTk] at RD
      have e:=Aer (tc:=w.T s) hsn hsl hsp rfl hd hkn rfl v2 v3 v5 v1 hcc hTc hgl hg0 hgne hmod (F.slow.trans (by rw [hslow])) (by rw [v4]; lia)
      rw [U1] at e
      exact ⟨_,e,rfl,RD⟩
     ·rename_i hslow
      obtain ⟨w',e,es,R'⟩:=Kv R₁ (k:=s + 1) hlen hph h
      refine ⟨w',Ako (r:=(.none,toA w')) (tc:=w.T s) hsn hsl hsp rfl hd hkn rfl v2 v3 v5 v1 hcc hTc hgl hg0 hgne hmod (by rw [F.slow]; lia) ?_,es,R'⟩
      rw [U1]; exact e
end
end
structure Plan where
 first:Int
 last:Int
 pat:Bool
 slow:Nat
noncomputable def Vl (pat:Bool) (slow:Nat) (c:Cst):Nat→Option Cst
 | 0=>Aj2 pat c
 | s + 1=>Akb pat slow c s
noncomputable def Ad5 (c:Cst):List Nat:=(List.range c.phs.length).filter fun k=>Ad6 (c.ph k)
noncomputable def Ma (pat:Bool) (slow:Nat) (c:Cst):List (Option Cst) :=
 if (Ad5 c).isEmpty then (if slow + 1 < c.phs.length∧c.ph (slow + 1)=.D then [Vl pat slow (c.sp (slow + 1) .RM) (slow + 1)] else [])
 else (Ad5 c).map (Vl pat slow c)
noncomputable def Ou (c:Cst):Bool:=decide (0 < c.phs.length) && decide (c.phs.length < 40) && decide (c.told.length < 900) && c.gots.all fun l=>decide (l.length < 900) && (match l with | []=>true | g :: _=>decide (g≠0))
noncomputable def Rr (rows:List (List Int)) (keep:List Int) (c:Cst):Bool:=decide (1 < c.phs.length) && (c.ph 0 == .X) && ((List.range c.phs.length).all fun k=>k == 0 || c.ph k == .A) && (c.gots == rows) && (rows.map (fun l=>l.headD 0) == keep) && rows.all fun l=>!l.isEmpty
noncomputable def okC (pat:Bool) (slow:Nat) (rows:List (List Int)) (keep:List Int) (c:Cst):Bool :=
 Ou c && Mv rows c.told c.gots && (Ma pat slow c).all (·.isSome) && (!(Ma pat slow c).isEmpty || Rr rows keep c)
noncomputable def eqC (a b:Cst):Bool:=a.phs == b.phs && a.gots == b.gots && a.left == b.left && a.told == b.told
noncomputable def X4 (l:List Cst):List Cst:=l.foldr (fun c acc=>if acc.any (fun x=>eqC x c) then acc else c :: acc) []
noncomputable def O9 (pat:Bool) (slow:Nat) (rows:List (List Int)) (keep:List Int):Nat→List Cst→Bool
 | 0,l=>l.isEmpty
 | f + 1,l=>l.all (okC pat slow rows keep) && O9 pat slow rows keep f (X4 (l.flatMap fun c=>(Ma pat slow c).filterMap id))
noncomputable def Gx (a b:Int):List Int:=(List.range (b - a).toNat).map fun (i:Nat)=>a + (i:Int)
noncomputable def Ho:Nat→List Int→List (List Int)
 | 0,_=>[]
 | f + 1,l=>match l with
  | []=>[]
  | _ :: _=>l :: Ho f (Iu l)
noncomputable def keepers (first last:Int):List Int:=(Gx first (last + 1)).filter fun n=>((Gx first n).filter fun d=>decide (n.fmod d=0)).isEmpty
noncomputable def Yo (first last:Int):Cst:=⟨[],Gx first (last + 1),[.RI],[]⟩
noncomputable def Ee (first last:Int):Bool:=[false,true].all fun pat=>(List.range 4).all fun slow=>O9 pat slow (Ho 20 (Gx first (last + 1))) (keepers first last) 250 [Yo first last]
section
noncomputable def R0:SD:=(Am (sIf (Bs Ff (A1 (Ad "task") "raised") (An .none)) (Am (C4 (An (.bool false))) Aq) Aq) (Am (sIf (Bs cEq (A1 (Ad "task") "number") (A1 (Ad "feeder") "number")) (Am (Bw (Az Dd (Af (Ad "mill") (Af (Ad "task") (Af (Ad "source") Ap))))) Aq) (Am (Bw (Az C1 (Af (Ad "mill") (Af (Ad "task") (Af (Ed "list" Q9 (Bg (Ad "mill") (An (.str "crew"))) (Af (A1 (Ad "task") "number") Ap)) Ap))))) Aq)) (Am (sIf (Gk (Cz (Az Fm (Af (Ad "mill") Ap)))) (Am (C4 (An (.bool false))) Aq) Aq) (Am (Bb "task" (Az Cg (Af (Ad "tasking") Ap))) Aq))))
noncomputable def Ab6:B:=(Bs Ff (Ad "task") (An .none))
noncomputable def Ahg (pat:Bool) (slow:Nat) (rows:List (List Int)) (keep:List Int):Nat→Cst→Prop
 | 0,_=>False
 | f + 1,c=>okC pat slow rows keep c=true∧∀ c',some c'∈Ma pat slow c→Ahg pat slow rows keep f c'
theorem Akv {a b:Cst} (h:eqC a b=true):a=b:=by
 have h:(a.phs == b.phs && a.gots == b.gots && a.left == b.left && a.told == b.told)=true:=h
 simp only [Bool.and_eq_true,beq_iff_eq] at h
 obtain ⟨⟨⟨h1,h2⟩,h3⟩,h4⟩:=h
 cases a; cases b
 simp_all
theorem X5:∀ (l:List Cst) (c:Cst),c∈l→c∈X4 l
 | [],_,h=>by cases h
 | x :: l,c,h=>by
  show c∈(if (X4 l).any (fun y=>eqC y x) then X4 l else x :: X4 l)
  rcases List.mem_cons.mp h with rfl | h
  ·(set_option tactic.hygienic true in split)
   ·rename_i g
    obtain ⟨y,hy,e⟩:=List.any_eq_true.mp g
    rw [← Akv e]; exact hy
   ·exact List.mem_cons_self
  ·have:=X5 l c h
   (set_option tactic.hygienic true in split)
   ·exact this
   ·exact List.mem_cons_of_mem _ this
theorem Pa {pat:Bool} {slow:Nat} {rows:List (List Int)} {keep:List Int}:∀ f l,O9 pat slow rows keep f l=true→∀ c∈l,Ahg pat slow rows keep f c
 | 0,l,h,c,hc=>by
  have h:l.isEmpty=true:=h
  cases l with
  | nil=>cases hc
  | cons _ _=>cases h
 | f + 1,l,h,c,hc=>by
  have h:(l.all (okC pat slow rows keep) && O9 pat slow rows keep f (X4 (l.flatMap fun c=>(Ma pat slow c).filterMap id)))=true:=h
  simp only [Bool.and_eq_true,List.all_eq_true] at h
  refine ⟨h.1 c hc,fun c' hc'=>Pa f _ h.2 c' (X5 _ _ ?_)⟩
  exact List.mem_flatMap.mpr ⟨c,hc,List.mem_filterMap.mpr ⟨some c',hc',rfl⟩⟩
theorem Anq {f:Nat→Int} {n s:Nat} (h:s < n) (hi:∀ i,i < s→f i≠f s):((List.range n).map f).idxOf (f s)=s:=by
 unfold List.idxOf
 rw [List.findIdx_eq (by rw [List.length_map,List.length_range]; exact h)]
 refine ⟨by simp,fun j hj=>?_⟩
 simpa using hi j hj
structure LocP (m:B1):Prop where
 tk:m.lookup "tasking" = some (.id .tasking)
 mi:m.lookup "mill" = some (.id .mill)
 so:m.lookup "source" = some (.id .source)
 fe:m.lookup "feeder" = some (.id (.task 0))
theorem LocP.set {m:B1} (h:LocP m) (v:AVal):LocP (Bd m "task" v):=⟨(Cq (by decide)).trans h.tk,(Cq (by decide)).trans h.mi,(Cq (by decide)).trans h.so,(Cq (by decide)).trans h.fe⟩
section
variable {cf:Conf} {rows:List (List Int)} {keep:List Int} (htr:cf.truth=rows.map fun r=>.flist (iv r))
include htr
theorem An9 {c:Cst} {w:Ws} (R:Rep cf c w) (h:okC cf.pat cf.slow rows keep c=true):Fm [.id .mill] (toA w)=some (.bool true,toA w):=by
 simp only [okC,Bool.and_eq_true] at h
 obtain ⟨⟨⟨hs,hr⟩,_⟩,_⟩:=h
 simp only [Ou,Bool.and_eq_true,decide_eq_true_eq,List.all_eq_true] at hs
 obtain ⟨⟨⟨h0,h40⟩,h3⟩,h4⟩:=hs
 have F:=R.fr
 have hl:=R.len
 refine Ame (truth:=rows) (gots:=c.gots) (told:=c.told) (by have:=F.sn; lia) (by have:=F.ns; lia) (by lia) R.told (fun s l hsl=>?_) (F.truth.trans htr) hr
 have hsl':s < c.gots.length:=(List.getElem?_eq_some_iff.mp hsl).1
 have hmem:l∈c.gots:=List.mem_of_getElem? hsl
 obtain ⟨h5,h6⟩:=h4 l hmem
 refine ⟨?_,fun g r e=>?_,h5⟩
 ·rw [R.got s hsl',List.getD_eq_getElem?_getD,hsl]; rfl
 ·subst e; simpa using h6
theorem Am5 {c c':Cst} {w:Ws} {k:Nat} {m:B1} (R:Rep cf c w) (hk:k < c.phs.length) (hsm:Ou c=true) (ht:Vl cf.pat cf.slow c k=some c') (hok:okC cf.pat cf.slow rows keep c'=true) (hm:LocP m) :
  ∃ w',w'.steps=w.steps∧Rep cf c' w'∧∀ v σ,Cg [.id .tasking] (toA w')=some (v,σ)→R0 (Bd m "task" (.id (.task k))) (toA w)=some (.next,Bd (Bd m "task" (.id (.task k))) "task" v,σ):=by
 have F:=R.fr
 have hm':=hm.set (.id (.task k))
 simp only [Ou,Bool.and_eq_true,decide_eq_true_eq,List.all_eq_true] at hsm
 obtain ⟨⟨⟨h0,h40⟩,h3⟩,h4⟩:=hsm
 have hkn:k < w.n:=by rw [F.n]; exact hk
 have h0n:0 < w.n:=by lia
 have P:=R.proc k hk
 have eif1:sIf (Bs Ff (A1 (Ad "task") "raised") (An .none)) (Am (C4 (An (.bool false))) Aq) Aq (Bd m "task" (.id (.task k))) (toA w)=some (.next,Bd m "task" (.id (.task k)),toA w):=by
  apply Br
  ·exact A4 (Ay (Ac Bi) ((Ah1 hkn rfl).trans (congrArg some P.rsd))) Ah rfl
  ·exact Ar
 have ecmp:Bs cEq (A1 (Ad "task") "number") (A1 (Ad "feeder") "number") (Bd m "task" (.id (.task k))) (toA w)=some (decide ((w.T k).num=(w.T 0).num),toA w):=A4 (Ay (Ac Bi) (Fw hkn rfl)) (Ay (Ac hm'.fe) (Fw h0n rfl)) Acn
 have tail:∀ {w':Ws},Rep cf c' w'→∀ v σ,Cg [.id .tasking] (toA w')=some (v,σ) →
   Am (sIf (Gk (Cz (Az Fm (Af (Ad "mill") Ap)))) (Am (C4 (An (.bool false))) Aq) Aq) (Am (Bb "task" (Az Cg (Af (Ad "tasking") Ap))) Aq) (Bd m "task" (.id (.task k))) (toA w')=some (.next,Bd (Bd m "task" (.id (.task k))) "task" v,σ):=fun {w'} R' v σ hv=>by
  apply Ak
  ·apply Br
   ·exact F9 (Bk (Aw (Ae (Ac hm'.mi) Au) (An9 htr R' hok)))
   ·exact Ar
  apply Ak
  ·exact A7 (Aw (Ae (Ac hm'.tk) Au) hv)
  exact Ar
 cases k with
 | zero =>
  obtain ⟨w',e,es,R'⟩:=Alw R h0 (by lia) (fun J J J=>trivial) ht
  refine ⟨w',es,R',fun v σ hv=>?_⟩
  rw [decide_eq_true rfl] at ecmp
  unfold R0
  apply Ak eif1
  apply Ak
  ·apply Cw ecmp
   apply Ak
   ·exact Bo (Aw (Ae (Ac hm'.mi) (Ae (Ac Bi) (Ae (Ac hm'.so) Au))) e)
   exact Ar
  exact tail R' v σ hv
 | succ s =>
  have hgs:(c.gots.getD s []).length < 1000:=by
   have hl:=R.len
   have:s < c.gots.length:=by lia
   have hmem:c.gots.getD s []∈c.gots:=by
    rw [List.getD_eq_getElem?_getD,List.getElem?_eq_getElem this]; exact List.getElem_mem this
   have:=(h4 _ hmem).1
   lia
  obtain ⟨w',e,es,R'⟩:=Alx R hk hgs ht
  refine ⟨w',es,R',fun v σ hv=>?_⟩
  rw [decide_eq_false (by have:=F.inc 0 (s + 1) (by lia) hk; lia)] at ecmp
  have hidx:Q9 (toA w) (.id .crew) [.int (w.T (s + 1)).num]=some (.int s,toA w):=by
   have hcr:w.crew=iv ((List.range w.ns).map fun i=>(w.T (i + 1)).num):=by rw [F.crew,iv,List.map_map]; rfl
   have hsn:s < w.ns:=by have:=F.ns; lia
   have hix:=Anq (f:=fun i=>(w.T (i + 1)).num) hsn fun i hi=>by have:=F.inc (i + 1) (s + 1) (by lia) hk; lia
   unfold Q9
   dsimp only
   rw [show (toA w).lst (.id .crew)=some w.crew from rfl,hcr,Option.bind_some,Pn,Option.bind_some,if_pos (List.mem_map.mpr ⟨s,List.mem_range.mpr hsn,rfl⟩),hix]
  unfold R0
  apply Ak eif1
  apply Ak
  ·apply Br ecmp
   apply Ak
   ·apply Bo
    apply Aw
    ·apply Ae (Ac hm'.mi)
     apply Ae (Ac Bi)
     apply Ae
     ·apply Dv
      ·exact Ax (Ac hm'.mi) Ah rfl
      ·exact Cv rfl
      ·exact Ae (Ay (Ac Bi) (Fw hkn rfl)) Au
      ·exact hidx
     ·exact Au
    ·exact e
   exact Ar
  exact tail R' v σ hv
theorem Agw (hne:cf.ws≠[]):∀ f (c:Cst) (w:Ws),Ahg cf.pat cf.slow rows keep f c→Rep cf c w→w.steps.length + f < 800000 →
  ∃ v w₁,Cg [.id .tasking] (toA w)=some (v,toA w₁)∧∀ m,LocP m→∀ fuel,f < fuel→∃ m' w' cF wF,D5 Ab6 R0 fuel (Bd m "task" v) (toA w₁)=some (.next,m',toA w')∧LocP m'∧(∀ x,x ≠ "task" → m'.lookup x=m.lookup x)∧Rep cf cF wF∧Same wF w'∧Rr rows keep cF=true:=by
 intro f
 induction f with
 | zero=>intro c w h; exact h.elim
 | succ f ih =>
  intro c w hG R hs
  obtain ⟨hok,hnext⟩:=hG
  have hok':=hok
  simp only [okC,Bool.and_eq_true,List.all_eq_true,Bool.or_eq_true,Bool.not_eq_true'] at hok'
  obtain ⟨⟨⟨hsm,hrow⟩,hall⟩,hend⟩:=hok'
  have hsm':=hsm
  simp only [Ou,Bool.and_eq_true,decide_eq_true_eq] at hsm'
  have h0:0 < c.phs.length:=hsm'.1.1.1
  by_cases hr:(Ad5 c).isEmpty=true
  ·have hnr:∀ k,k < c.phs.length→Ad6 (c.ph k)=false:=fun k hk=>by
    have:=List.filter_eq_nil_iff.mp (List.isEmpty_iff.mp hr) k (List.mem_range.mpr hk)
    simpa using this
   by_cases hD:cf.slow + 1 < c.phs.length∧c.ph (cf.slow + 1)=.D
   ·have hn:Ma cf.pat cf.slow c=[Vl cf.pat cf.slow (c.sp (cf.slow + 1) .RM) (cf.slow + 1)]:=by unfold Ma; rw [if_pos hr,if_pos hD]
    obtain ⟨c',hc'⟩:∃ c',Vl cf.pat cf.slow (c.sp (cf.slow + 1) .RM) (cf.slow + 1)=some c':=Option.isSome_iff_exists.mp (hall _ (by rw [hn]; simp))
    have hG':=hnext c' (by rw [hn,hc']; simp)
    obtain ⟨w₁,e1,es,R₁⟩:=R.pickRest hne (by lia) hnr hD.1 hD.2
    have hsm₁:Ou (c.sp (cf.slow + 1) .RM)=true:=by
     simp only [Ou,Bool.and_eq_true,decide_eq_true_eq,Cu] at hsm ⊢; exact hsm
    refine ⟨_,w₁,e1,fun m hm fuel hf=>?_⟩
    obtain ⟨fuel,rfl⟩:∃ f',fuel=f' + 1:=⟨fuel - 1,by lia⟩
    cases f with
    | zero=>exact hG'.elim
    | succ f =>
     obtain ⟨w₂,es₂,R₂,hbody⟩:=Am5 htr R₁ (by rw [Cu]; exact hD.1) hsm₁ hc' hG'.1 hm
     obtain ⟨v,w₃,e3,hloop⟩:=ih c' w₂ hG' R₂ (by rw [es₂,es]; lia)
     obtain ⟨m',w',cF,wF,e4,hm',hk',hRF,hSF,hEF⟩:=hloop (Bd m "task" (.id (.task (cf.slow + 1)))) (hm.set _) fuel (by lia)
     exact ⟨m',w',cF,wF,Qa (A4 (Ac Bi) Ah rfl) (hbody v _ e3) e4,hm',fun x hx=>(hk' x hx).trans (Cq hx),hRF,hSF,hEF⟩
   ·have hn:Ma cf.pat cf.slow c=[]:=by unfold Ma; rw [if_pos hr,if_neg hD]
    rw [hn] at hend
    have hE:Rr rows keep c=true:=hend.resolve_left (by simp)
    have hE':=hE
    simp only [Rr,Bool.and_eq_true,decide_eq_true_eq,beq_iff_eq,List.all_eq_true,Bool.or_eq_true] at hE'
    obtain ⟨⟨⟨⟨⟨e1,e2⟩,e3⟩,e4⟩,e5⟩,e6⟩:=hE'
    obtain ⟨w',ep,S'⟩:=R.pickEnd e1 e2 fun k hk h=>(e3 k (List.mem_range.mpr hk)).resolve_left (by lia)
    refine ⟨_,w',ep,fun m hm fuel hf=>?_⟩
    obtain ⟨fuel,rfl⟩:∃ f',fuel=f' + 1:=⟨fuel - 1,by lia⟩
    exact ⟨Bd m "task" .none,w',c,w,Mb (A4 (Ac Bi) Ah rfl),hm.set _,fun x hx=>Cq hx,R,S',hE⟩
  ·have hn:Ma cf.pat cf.slow c=(Ad5 c).map (Vl cf.pat cf.slow c):=by unfold Ma; rw [if_neg hr]
   have hex:∃ k,k < c.phs.length∧Ad6 (c.ph k)=true:=by
    cases h:Ad5 c with
    | nil=>rw [h] at hr; exact absurd rfl hr
    | cons k l =>
     have:k∈Ad5 c:=by rw [h]; simp
     obtain ⟨a,b⟩:=List.mem_filter.mp this
     exact ⟨k,List.mem_range.mp a,b⟩
   obtain ⟨w₁,k,hk,hkr,e1,es,R₁⟩:=R.pickReady h0 hne (by lia) hex
   have hkm:k∈Ad5 c:=List.mem_filter.mpr ⟨List.mem_range.mpr hk,hkr⟩
   have hin:Vl cf.pat cf.slow c k∈Ma cf.pat cf.slow c:=by rw [hn]; exact List.mem_map.mpr ⟨k,hkm,rfl⟩
   obtain ⟨c',hc'⟩:=Option.isSome_iff_exists.mp (hall _ hin)
   have hG':=hnext c' (by rw [← hc']; exact hin)
   refine ⟨_,w₁,e1,fun m hm fuel hf=>?_⟩
   obtain ⟨fuel,rfl⟩:∃ f',fuel=f' + 1:=⟨fuel - 1,by lia⟩
   cases f with
   | zero=>exact hG'.elim
   | succ f =>
    obtain ⟨w₂,es₂,R₂,hbody⟩:=Am5 htr R₁ hk hsm hc' hG'.1 hm
    obtain ⟨v,w₃,e3,hloop⟩:=ih c' w₂ hG' R₂ (by rw [es₂,es]; lia)
    obtain ⟨m',w',cF,wF,e4,hm',hk',hRF,hSF,hEF⟩:=hloop (Bd m "task" (.id (.task k))) (hm.set _) fuel (by lia)
    exact ⟨m',w',cF,wF,Qa (A4 (Ac Bi) Ah rfl) (hbody v _ e3) e4,hm',fun x hx=>(hk' x hx).trans (Cq hx),hRF,hSF,hEF⟩
end
end
noncomputable def Amy:List Int:=[0,6,1,1,1]
noncomputable def toldV (ns:List Int) (spot:Nat) (sides:Int):Int:=(if spot < ns.length then ns.getD spot 0 else Amy.getD spot 0).fmod sides
theorem Vy {ns:List Int} {spot:Nat} {sides:Int} {σ:AS} (hl:ns.length≤63) (hs:spot < 5) (h0:sides≠0):Eo [.flist (iv ns),.int spot,.int sides] σ=some (.int (toldV ns spot sides),σ):=by
 apply Bv rfl
 unfold Ot
 apply A8
 apply B7
 unfold toldV
 by_cases h:spot < ns.length
 ·rw [if_pos h]
  apply H0
  ·apply Jp (t:=true)
   ·apply A4
    ·exact Ac rfl
    ·exact Aw (Ae (Ac rfl) Au) (show F7 [.flist (iv ns)] σ=some (.int (iv ns).length,σ) from rfl)
    ·show some (decide ((spot:Int) < ((iv ns).length:Int)))=some true
     rw [List.length_map]
     exact congrArg some (decide_eq_true (by lia))
   ·apply Df rfl
    apply Ax
    ·exact Ac rfl
    ·exact Ac rfl
    ·rw [Mx (xs:=iv ns) rfl]
     unfold Hh
     rw [if_pos (by lia),if_pos (by lia),Int.toNat_natCast,List.getElem?_map,List.getElem?_eq_getElem h]
     show some (AVal.int ns[spot])=some (.int (ns.getD spot 0))
     rw [List.getD_eq_getElem?_getD,List.getElem?_eq_getElem h]; rfl
  ·exact Ac rfl
  ·exact if_neg h0
 ·rw [if_neg h]
  apply H0
  ·apply Jp (t:=false)
   ·apply A4
    ·exact Ac rfl
    ·exact Aw (Ae (Ac rfl) Au) (show F7 [.flist (iv ns)] σ=some (.int (iv ns).length,σ) from rfl)
    ·show some (decide ((spot:Int) < ((iv ns).length:Int)))=some false
     rw [List.length_map]
     exact congrArg some (decide_eq_false (by lia))
   ·apply Dj rfl
    apply Ax
    ·exact Ah
    ·exact Ac rfl
    ·show (if 0≤(spot:Int)∧(spot:Int) < 1000 then ([AVal.int 0,.int 6,.int 1,.int 1,.int 1]:List AVal)[(spot:Int).toNat]? else none)=some (.int (Amy.getD spot 0))
     rw [if_pos (by lia),Int.toNat_natCast]
     match spot,hs with
     | 0,_=>rfl
     | 1,_=>rfl
     | 2,_=>rfl
     | 3,_=>rfl
     | 4,_=>rfl
  ·exact Ac rfl
  ·exact if_neg h0
theorem Agi {g:Int} {r:List Int}:(Iu (g :: r)).length≤r.length:=by
 show ((g :: r).filter fun n=>!decide (n.fmod g=0)).length≤_
 rw [List.filter_cons_of_neg (by simp)]
 exact List.length_filter_le _ _
noncomputable def nz (l:List Int):Prop:=∀ x∈l,x≠0
theorem Alk {l:List Int} (h:nz l):nz (Iu l):=by
 cases l with
 | nil=>exact h
 | cons g r=>exact fun x hx=>h x (List.mem_filter.mp hx).1
theorem Aga {σ:AS} {m:B1} {g:Int} {r:List Int} (hm:m.lookup "left" = some (.flist (iv (g :: r)))) (hl:(g :: r).length < 900) (hg:g≠0) :
  C3 (Ad "left") (B3 "number") (Bs cNe (Fv K5 (Ad "number") (Bg (Ad "left") (An (.int 0)))) (An (.int 0))) (Ad "number") ["left"] 1000 m σ=some (.flist (iv (Iu (g :: r))),σ):=by
 apply D8
 ·exact Ac hm
 have hol:(Gg m ["left"]).lookup "left" = some (.flist (iv (g :: r))):=by
  have:∀ m:B1,(Gg m ["left"]).lookup "left" = m.lookup "left" := by
   intro m
   induction m with
   | nil=>rfl
   | cons x r ih =>
    obtain ⟨y,v⟩:=x
    unfold Gg
    by_cases hy:y = "left"
    ·subst hy
     rw [List.filter_cons_of_pos (by simp)]
     simp
    ·rw [List.filter_cons_of_neg (by simpa using hy),List.lookup_cons]
     have:("left" == y)=false:=by simpa using Ne.symm hy
     rw [this]; exact ih
  rw [this]; exact hm
 have h:=Hi (v:=.flist (iv (g :: r))) (xs:=iv (g :: r)) (nm := "number") (σ:=σ) (bt:=Bs cNe (Fv K5 (Ad "number") (Bg (Ad "left") (An (.int 0)))) (An (.int 0))) (el:=Ad "number") (P:=fun m=>m.lookup "left" = some (.flist (iv (g :: r))))
  (b:=fun y=>match y with | .int n=>!decide (n.fmod g=0) | _=>false) (e:=fun y=>y) (fun k=>rfl) (fun m y h=>(Cq (by decide)).trans h)
  (fun y hy m hm=>by
   obtain ⟨n,_,rfl⟩:=List.mem_map.mp hy
   apply A4
   ·apply H0
    ·exact Ac Bi
    ·apply Ax
     ·exact Ac ((Cq (by decide)).trans hm)
     ·exact Ah
     ·exact (Mx (xs:=iv (g :: r)) rfl 0).trans rfl
    ·exact if_neg hg
   ·exact Ah
   ·exact Ajq) (fun y hy m hm J=>Ac Bi) 1000 0 [] (Gg m ["left"]) (by rw [List.length_map]; lia) (Nat.zero_le _) hol
 rw [h]
 refine congrArg (fun z=>some (AVal.flist z,σ)) ?_
 rw [List.nil_append,List.drop_zero,List.map_id',List.filter_map]
 rfl
noncomputable abbrev fl (rows:List (List Int)):List AVal:=rows.map fun r=>.flist (iv r)
theorem Aeg {σ:AS}:∀ f (l:List Int) (acc:List AVal) (m:B1) (n:Nat),l.length≤f→nz l→l.length < 900→acc.length + f < 1000→f < n→m.lookup "rows" = some (.id .rows)→m.lookup "left" = some (.flist (iv l)) →
  ∃ m',D5 (Bs cNe (Ad "left") (Db Ap)) (Am (Bw (Ed "list" Ck (Ad "rows") (Af (Ad "left") Ap))) (Am (Bb "left" (C3 (Ad "left") (B3 "number") (Bs cNe (Fv K5 (Ad "number") (Bg (Ad "left") (An (.int 0)))) (An (.int 0))) (Ad "number") ["left"] 1000)) Aq)) n m (σ.add .rows (.list acc))=some (.next,m',σ.add .rows (.list (acc++fl (Ho f l))))∧m'.lookup "rows" = some (.id .rows):=by
 intro f
 induction f with
 | zero =>
  intro l acc m n h1 h2 h3 h4 h5 h6 h7
  obtain ⟨n,rfl⟩:∃ n',n=n' + 1:=⟨n - 1,by lia⟩
  have:l=[]:=List.length_eq_zero_iff.mp (by lia)
  subst this
  refine ⟨m,?_,h6⟩
  rw [show acc++fl (Ho 0 [])=acc by simp [Ho,fl]]
  exact Mb (A4 (Ac h7) (Cj Au (Nat.zero_le _)) rfl)
 | succ f ih =>
  intro l acc m n h1 h2 h3 h4 h5 h6 h7
  obtain ⟨n,rfl⟩:∃ n',n=n' + 1:=⟨n - 1,by lia⟩
  cases l with
  | nil =>
   refine ⟨m,?_,h6⟩
   rw [show acc++fl (Ho (f + 1) [])=acc by simp [Ho,fl]]
   exact Mb (A4 (Ac h7) (Cj Au (Nat.zero_le _)) rfl)
  | cons g r =>
   have hlt:=Agi (g:=g) (r:=r)
   simp only [List.length_cons] at h1 h3
   obtain ⟨m',e,hm'⟩:=ih (Iu (g :: r)) (acc++[.flist (iv (g :: r))]) (Bd m "left" (.flist (iv (Iu (g :: r))))) n (by lia) (Alk h2) (by lia) (by rw [List.length_append,List.length_singleton]; lia) (by lia) ((Cq (by decide)).trans h6) Bi
   refine ⟨m',?_,hm'⟩
   rw [show acc++fl (Ho (f + 1) (g :: r))=acc++[.flist (iv (g :: r))]++fl (Ho f (Iu (g :: r))) by simp [Ho,fl]]
   apply Qa
   ·exact A4 (Ac h7) (Cj Au (Nat.zero_le _)) Am0
   ·apply Ak
    ·apply Bo
     apply Dv
     ·exact Ac h6
     ·exact (show (σ.add .rows (.list acc)).kindOf (.id .rows)=some "list" by unfold AS.kindOf; dsimp only; rw [show (σ.add .rows (.list acc)).R .rows=some (.list acc) from E3 σ.R .rows (.list acc)])
     ·exact Ae (Ac h7) Au
     ·exact (show Ck (σ.add .rows (.list acc)) (.id .rows) [.flist (iv (g :: r))]=some (.none,σ.add .rows (.list (acc++[.flist (iv (g :: r))]))) by
       unfold Ck; dsimp only
       rw [show (σ.add .rows (.list acc)).R .rows=some (.list acc) from E3 σ.R .rows (.list acc)]
       dsimp only
       rw [if_pos (by lia),Y0])
    apply Ak
    ·exact A7 (Aga h7 (by simp only [List.length_cons]; lia) (h2 g (by simp)))
    exact Ar
   ·exact e
theorem Afm (a:Int) (b:Int):Acq a (b - a).toNat=iv (Gx a b):=by
 unfold Acq Gx iv
 rw [List.map_map]; rfl
theorem Va (a b:Int):(Gx a b).length=(b - a).toNat:=by unfold Gx; rw [List.length_map,List.length_range]
theorem Afl {a b:Int} (h:1≤a):nz (Gx a b):=fun x hx=>by
 obtain ⟨i,_,rfl⟩:=List.mem_map.mp hx
 lia
theorem Th {a b:Int} {σ:AS} (ha:okR a=true) (hb:okR b=true):Ft [.int a,.int b] σ=some (.rng a b,σ):=by
 unfold Ft
 dsimp only
 rw [ha,hb]; rfl
theorem M5 {a:Int} (h1:-1000≤a) (h2:a≤1000):okR a=true:=by
 unfold okR
 rw [decide_eq_true (by lia),decide_eq_true (by lia)]; rfl
theorem Ami {a b:Int} {σ:AS} (h1:1≤a) (h2:a≤100) (h3:b≤a + 15) (h4:-100≤b) (hr:σ.R .rows=none):Ja [.int a,.int b] σ=some (.id .rows,σ.add .rows (.list (fl (Ho 20 (Gx a (b + 1)))))):=by
 have hlen:(Gx a (b + 1)).length≤20:=by rw [Va]; lia
 obtain ⟨m',e,hm'⟩:=Aeg (σ:=σ) 20 (Gx a (b + 1)) [] (Bd (Bd (Dc ["first", "last"] [.int a,.int b]) "rows" (.id .rows)) "left" (.flist (iv (Gx a (b + 1))))) 1000 hlen (Afl h1) (by lia) (by simp) (by lia) rfl rfl
 apply Bv rfl
 unfold Na
 apply Ak
 ·exact A7 (Hc Au (Nat.zero_le _) rfl (E7 hr))
 apply Ak
 ·apply A7
  apply Aw
  ·apply Ae
   ·apply Aw
    ·exact Ae (Ac rfl) (Ae (H0 (Ac rfl) Ah rfl) Au)
    ·exact Th (M5 (by lia) (by lia)) (M5 (by lia) (by lia))
   ·exact Au
  ·show (if (b + 1 - a).toNat≤1000000 then some (AVal.flist (Acq a (b + 1 - a).toNat),σ.add .rows (.list [])) else none)=_
   rw [if_pos (by lia),Afm]
 apply Ak
 ·exact e
 exact A8 (B7 (Ac hm'))
noncomputable def S1 (ns:List Int):List Int:=if ns.drop 5=[] then [0,1] else ns.drop 5
theorem Amc (ns:List Int):S1 ns≠[]:=by
 unfold S1
 split
 ·decide
 ·assumption
noncomputable def mA (ns:List Int) (a b:Int):B1:=Bd (Bd (Bd (Bd [("script",.flist (iv ns))] "first" (.int a)) "last" (.int b)) "wishes" (.flist (iv (S1 ns)))) "steps" (.id .steps)
theorem Aoi {ns:List Int} (hl:ns.length≤63):Vd [("script",.flist (iv ns))] σ00=some (.next,mA ns (2 + toldV ns 0 3) (14 - (2 + toldV ns 0 3) - toldV ns 1 7),σ00.add .steps (.list [])):=by
 unfold Vd
 apply Ak
 ·exact A7 (H0 Ah (Aw (Ae (Ac rfl) (Ae Ah (Ae Ah Au))) (Vy (spot:=0) hl (by lia) (by decide))) rfl)
 apply Ak
 ·exact A7 (H0 (H0 Ah (Ac rfl) rfl) (Aw (Ae (Ac rfl) (Ae Ah (Ae Ah Au))) (Vy (spot:=1) hl (by lia) (by decide))) rfl)
 apply Ak
 ·apply A7 (v:=.flist (iv (S1 ns)))
  apply Am2 (t:=!(iv (ns.drop 5)).isEmpty)
  ·exact (show Aey (Ad "script") (An (.int 5)) _ σ00=some (.flist (iv (ns.drop 5)),σ00) by
    unfold Aey
    rw [Ac (v:=.flist (iv ns)) rfl,Option.bind_some,Ah,Option.bind_some]
    show some (AVal.flist ((iv ns).drop 5),σ00)=_
    unfold iv
    rw [List.map_drop])
  ·exact rfl
  ·unfold S1
   cases h:ns.drop 5 with
   | nil =>
    rw [show (if ([]:List Int)=[] then ([0,1]:List Int) else [])=[0,1] from if_pos rfl]
    apply Dj rfl
    apply Cj
    ·exact Ae Ah (Ae Ah Au)
    ·exact Nat.le_of_ble_eq_true rfl
   | cons x r =>
    rw [show (if (x :: r:List Int)=[] then ([0,1]:List Int) else x :: r)=x :: r from if_neg (by simp)]
    exact Df rfl rfl
 apply Ak
 ·exact A7 (Hc Au (Nat.zero_le _) rfl (E7 rfl))
 exact Ar
noncomputable def wI (tr left:List AVal) (nst pat:Bool) (slow:Int) (wis:AVal):Ws:={ n:=0,tn:=0,T:=fun J=>Dr 0 "" .none,q:=fun J=>none,sv:=fun J=>[],ms:=fun J=>[],M:=fun J=>none,lib:=⟨0,false,[]⟩,nums:=0,settled:=0,now:=0,truth:=tr,told:=[],crew:=[],rests:=0,nested:=nst,pat:=pat,slow:=slow,left:=left,snext:=.none,shand:=.none,sdoes := "make",ns:=0,sn:=0,S:=fun J=>⟨[],.none,.none, ""⟩,steps:=[],wishes:=wis,G:=fun J=>none,gn:=0,z:=fun h=>h.elim }
noncomputable def R1 (wis:AVal):Aa4
 | .mill=>none
 | .stages=>none
 | .crew=>none
 | .told=>none
 | .source=>none
 | .left=>none
 | .rows=>none
 | i=>toR (wI [] [] false false 0 wis) i
noncomputable def σc (wis:AVal):AS:=Abj (σ00.add .steps (.list [])) (.id .steps) wis
noncomputable def Aee:SD:=(Bb "tasking" (Az Nj (Af (fun _ σ=>Pd [] σ) (Af (Ad "chooser") Ap))))
noncomputable def mB (ns:List Int) (a b:Int):B1:=[("script",.flist (iv ns)),("first",.int a),("last",.int b),("chooser",.id .chooser)]
noncomputable def out (r:Option (AFl×B1×AS)):AS:=match r with
 | some (_,_,σ)=>σ
 | none=>σ00
theorem Ahe {ns:List Int} {a b:Int} {wis:AVal}:Aee (mB ns a b) (σc wis)=some (.next,Bd (mB ns a b) "tasking" (.id .tasking),⟨R1 wis,0⟩):=by
 have h1:Aee (mB ns a b) (σc wis)=some (.next,Bd (mB ns a b) "tasking" (.id .tasking),out (Aee (mB ns a b) (σc wis))):=by kernel_rfl
 have h2:out (Aee (mB ns a b) (σc wis))=⟨R1 wis,0⟩:=by
  have hn:(out (Aee (mB ns a b) (σc wis))).n=0:=by kernel_rfl
  have hR:(out (Aee (mB ns a b) (σc wis))).R=R1 wis:=by
   funext i
   cases i <;> kernel_rfl
  cases h:out (Aee (mB ns a b) (σc wis)) with
  | mk R n =>
   rw [h] at hn hR
   have hn:n=0:=hn
   have hR:R=R1 wis:=hR
   rw [hn,hR]
 rw [h1,h2]
theorem Xf {s:String} {d:D} {P:Ps} {m:B1} {σ σ₁ σ₂:AS} {v:AVal} {es:List (String×AVal)} (h1:d m σ=some (v,σ₁)) (h2:P m σ₁=some (es,σ₂)):Ct s d P m σ=some ((s,v) :: es,σ₂):=by
 unfold Ct
 rw [h1,Option.bind_some,h2]; rfl
theorem Am4 {m:B1} {σ:AS}:N9 m σ=some ([],σ):=rfl
theorem Afj {nm:Nm} {P:Ps} {m:B1} {σ σ₀ σ₁:AS} {i:Id} {es:List (String×AVal)} (h1:nm m σ=some i) (h2:σ.born i (.sdict [])=some σ₀) (h3:P m σ₀=some (es,σ₁)) (h4:σ₁.R i=some (.sdict [])) (h5:(es.map (·.1)).Nodup∧es.length≤15):Ir nm P m σ=some (.id i,σ₁.set i (.sdict es)):=by
 unfold Ir
 rw [h1,Option.bind_some,h2,Option.bind_some,h3,Option.bind_some]
 dsimp only
 rw [h4]
 exact if_pos h5
theorem Ad7 {σ:AS} {i:Id} {s:String} {v:AVal} {es:List (String×AVal)} (h:σ.R i=some (.sdict es)) (hl:es.length < 1000):σ.setItem (.id i) (.str s) v=some (σ.set i (.sdict (Bd es s v))):=by
 show (match σ.R i with | some (.sdict es)=>if es.length < 1000 then some (σ.set i (.sdict (Bd es s v))) else none | _=>none)=_
 rw [h]; exact if_pos hl
noncomputable def Aiv:SD→SD:=fun rest=>(Am (Bb "tasking" (Az Nj (Af (fun _ σ=>Pd [] σ) (Af (Ad "chooser") Ap)))) (Am (Bb "mill" (Ir (fun J J=>some .mill) (Ct "tasking" (Ad "tasking") (Ct "truth" (Az Ja (Af (Ad "first") (Af (Ad "last") Ap))) (Ct "stages" (Eg (fun J J=>some .stages) Ap) (Ct "crew" (Eg (fun J J=>some .crew) Ap) (Ct "told" (Eg (fun J J=>some .told) Ap) (Ct "rests" (An (.int 0)) N9)))))))) (Am (Fy (Kf cEq (Az Eo (Af (Ad "script") (Af (An (.int 2)) (Af (An (.int 2)) Ap)))) (An (.int 1))) (Ad "mill") (An (.str "is_nested"))) (Am (Fy (Kf cEq (Az Eo (Af (Ad "script") (Af (An (.int 3)) (Af (An (.int 2)) Ap)))) (An (.int 1))) (Ad "mill") (An (.str "has_patience"))) (Am (Fy (Az Eo (Af (Ad "script") (Af (An (.int 4)) (Af (An (.int 4)) Ap)))) (Ad "mill") (An (.str "slow"))) (Am (Bb "source" (Ir (fun J J=>some .source) (Ct "left" (Az (Nk fun J=>some .left) (Af (Az Ft (Af (Ad "first") (Af (Fv Pb (Ad "last") (An (.int 1))) Ap))) Ap)) (Ct "next" (An .none) (Ct "hand" (An .none) (Ct "does" (An (.str "make")) N9)))))) rest))))))
theorem Aoa {σ:AS} {i:Id} {o:AObj}:(σ.set i o).R i=some o:=E3 σ.R i o
noncomputable def mB2 (ns:List Int) (a b:Int):B1:=Bd (Bd (Bd (mB ns a b) "tasking" (.id .tasking)) "mill" (.id .mill)) "source" (.id .source)
theorem Aok {ns:List Int} {a b:Int} {wis:AVal} {rest:SD} {r:Option (AFl×B1×AS)} (hl:ns.length≤63) (h1:1≤a) (h2:a≤100) (h3:b≤a + 15) (h4:-100≤b)
  (H:rest (mB2 ns a b) (toA (wI (fl (Ho 20 (Gx a (b + 1)))) (iv (Gx a (b + 1))) (decide (toldV ns 2 2=1)) (decide (toldV ns 3 2=1)) (toldV ns 4 4) wis))=r):Aiv rest (mB ns a b) (σc wis)=r:=by
 unfold Aiv
 apply Ak
 ·exact Ahe
 generalize hσ:(⟨R1 wis,0⟩:AS)=σ1
 have f:∀ i,σ1.R i=R1 wis i:=fun i=>by rw [← hσ]
 have hn1:σ1.n=0:=by rw [← hσ]
 apply Ak
 ·apply A7
  apply Afj
  ·exact rfl
  ·exact E7 (f .mill)
  ·apply Xf
   ·exact Ac rfl
   apply Xf
   ·apply Aw
    ·exact Ae (Ac rfl) (Ae (Ac rfl) Au)
    ·exact Ami h1 h2 h3 h4 (f .rows)
   apply Xf
   ·exact Hc Au (Nat.zero_le _) rfl (E7 (f .stages))
   apply Xf
   ·exact Hc Au (Nat.zero_le _) rfl (E7 (f .crew))
   apply Xf
   ·exact Hc Au (Nat.zero_le _) rfl (E7 (f .told))
   apply Xf
   ·exact Ah
   exact Am4
  ·exact rfl
  ·exact (show (["tasking", "truth", "stages", "crew", "told", "rests"]:List String).Nodup∧6≤15 by decide)
 apply Ak
 ·apply Dt
  ·apply Gv
   ·exact Aw (Ae (Ac rfl) (Ae Ah (Ae Ah Au))) (Vy (spot:=2) hl (by lia) (by decide))
   ·exact Ah
   ·exact Acn
  ·exact Ac rfl
  ·exact Ah
  ·exact Ad7 Aoa (Nat.lt_of_le_of_lt (show 6≤6 by decide) (by decide))
 apply Ak
 ·apply Dt
  ·apply Gv
   ·exact Aw (Ae (Ac rfl) (Ae Ah (Ae Ah Au))) (Vy (spot:=3) hl (by lia) (by decide))
   ·exact Ah
   ·exact Acn
  ·exact Ac rfl
  ·exact Ah
  ·exact Ad7 Aoa (Nat.lt_of_le_of_lt (show 7≤7 by decide) (by decide))
 apply Ak
 ·apply Dt
  ·exact Aw (Ae (Ac rfl) (Ae Ah (Ae Ah Au))) (Vy (spot:=4) hl (by lia) (by decide))
  ·exact Ac rfl
  ·exact Ah
  ·exact Ad7 Aoa (Nat.lt_of_le_of_lt (show 8≤8 by decide) (by decide))
 apply Ak
 ·apply A7
  apply Afj
  ·exact rfl
  ·exact E7 (f .source)
  ·apply Xf
   ·apply Aw
    ·apply Ae
     ·apply Aw
      ·exact Ae (Ac rfl) (Ae (H0 (Ac rfl) Ah rfl) Au)
      ·exact Th (M5 (by lia) (by lia)) (M5 (by lia) (by lia))
     ·exact Au
    ·exact (show Nk (fun J=>some .left) [.rng a (b + 1)] _=some (.id .left,AS.add _ .left (.list (iv (Gx a (b + 1))))) by
      unfold Nk
      dsimp only
      rw [if_pos (by lia),Option.bind_some,E7 (by exact f .left),Afm]; rfl)
   apply Xf
   ·exact Ah
   apply Xf
   ·exact Ah
   apply Xf
   ·exact Ah
   exact Am4
  ·exact rfl
  ·exact (show (["left", "next", "hand", "does"]:List String).Nodup∧4≤15 by decide)
 rw [← H]
 refine congrArg (rest _) (Of hn1 fun i=>?_)
 rw [← hσ]
 cases i <;> kernel_rfl
section
theorem Aiu {x:String}:∀ m:B1,(Gg m [x]).lookup x=m.lookup x
 | []=>rfl
 | (y,v) :: r=>by
  unfold Gg
  by_cases hy:y=x
  ·subst hy
   rw [List.filter_cons_of_pos (by simp)]
   simp
  ·rw [List.filter_cons_of_neg (by simpa using hy),List.lookup_cons]
   have:(x == y)=false:=by simpa using Ne.symm hy
   rw [this]; exact Aiu r
theorem Ab0 {σ:AS} {a b:Int} (k:Nat):σ.its (.rng a b) k=some (iv (Gx a b))[k]?:=by
 show some (if a + k < b then some (AVal.int (a + k)) else none)=_
 unfold iv Gx
 rw [List.getElem?_map,List.getElem?_map]
 by_cases h:k < (b - a).toNat
 ·rw [if_pos (by lia),List.getElem?_range h]; rfl
 ·rw [if_neg (by lia),List.getElem?_eq_none (by rw [List.length_range]; lia)]; rfl
theorem Uk {σ:AS}:∀ (xs:List AVal) (ls:List (List Int)),xs.length=ls.length→(∀ (i:Nat) (x:AVal) (l:List Int),xs[i]?=some x→ls[i]?=some l→σ.lst x=some (iv l))→σ.intss? xs=some ls
 | [],[],_,_=>rfl
 | [],_ :: _,h,_=>by cases h
 | _ :: _,[],h,_=>by cases h
 | x :: xs,l :: ls,h,H=>by
  have h0:=H 0 x l rfl rfl
  have ih:=Uk xs ls (Nat.succ.inj h) fun i y k a b=>H (i + 1) y k a b
  show ((σ.lst x).bind ints?).bind (fun l=>(σ.intss? xs).map (l :: ·))=_
  rw [h0,Option.bind_some,Pn,Option.bind_some,ih]; rfl
theorem Ag8 {σ:AS} {L M:List AVal} {a b:List (List Int)} (h0:ints? L=none) (hl:L.length=M.length) (ha:σ.intss? L=some a) (hb:σ.intss? M=some b):σ.seqEq L M=some (decide (a=b)):=by
 unfold AS.seqEq
 rw [if_neg (by simp [hl]),h0,ha,hb]
noncomputable def Agb:SD:=(Am (sIf (bOr (Bs cNe (C3 (Bg (Ad "mill") (An (.str "stages"))) (B3 "stage") (Cp true) (Bg (Ad "stage") (An (.str "got"))) [] 1000) (Bg (Ad "mill") (An (.str "truth")))) (bOr (Bs cNe (A1 (A1 (Ad "tasking") "clock") "now") (Bg (Ad "mill") (An (.str "rests")))) (Cp false))) (Am (C4 (An (.bool false))) Aq) Aq) (Am (Bb "keepers" (C3 (Bg (Ad "mill") (An (.str "stages"))) (B3 "stage") (Cp true) (Bg (Bg (Ad "stage") (An (.str "got"))) (An (.int 0))) [] 1000)) (Am (C4 (Kf cEq (Ad "keepers") (C3 (Az Ft (Af (Ad "first") (Af (Fv Pb (Ad "last") (An (.int 1))) Ap))) (B3 "n") (Bs cEq (C3 (Az Ft (Af (Ad "first") (Af (Ad "n") Ap))) (B3 "d") (Bs cEq (Fv K5 (Ad "n") (Ad "d")) (An (.int 0))) (Ad "d") ["n"] 1000) (Db Ap)) (Ad "n") ["first"] 1000))) Aq)))
section
variable {cf:Conf} {c:Cst} {w w':Ws} {rows:List (List Int)} {a b:Int} (R:Rep cf c w) (S:Same w w') (E:Rr rows (keepers a b) c=true) (htr:cf.truth=fl rows)
include R S E
theorem Adi:w'.ns=c.gots.length∧w'.sn=c.gots.length∧c.gots.length < 40:=by
 have F:=R.fr; have:=R.len; have h3:=F.ns; have h4:=F.sn; have h5:=F.lt
 obtain ⟨T,M,G,g,s,rfl,_⟩:=S
 exact ⟨(by show w.ns=_; lia),(by show w.sn=_; lia),by lia⟩
theorem Ae0 {s:Nat} (h:s < c.gots.length):(w'.S s).got=iv (c.gots.getD s []):=by
 obtain ⟨T,M,G,g,s,rfl,_⟩:=S
 exact R.got _ h
theorem Abr:c.gots=rows∧(rows.map (fun l=>l.headD 0))=keepers a b∧(∀ l∈rows,l≠[])∧0 < c.gots.length:=by
 have hl:=R.len
 simp only [Rr,Bool.and_eq_true,decide_eq_true_eq,beq_iff_eq,List.all_eq_true,Bool.not_eq_true'] at E
 obtain ⟨⟨⟨⟨⟨e1,e2⟩,e3⟩,e4⟩,e5⟩,e6⟩:=E
 exact ⟨e4,e5,fun l hl h=>(by have:=e6 l hl; rw [h] at this; cases this),by lia⟩
theorem Age:w'.rests=w'.now:=by
 have hc:=R.cal
 obtain ⟨T,M,G,g,s,rfl,_⟩:=S
 show w.rests=w.now
 rw [hc,if_neg,Int.add_zero]
 simp only [Rr,Bool.and_eq_true,decide_eq_true_eq,beq_iff_eq,List.all_eq_true,Bool.or_eq_true,List.mem_range] at E
 obtain ⟨⟨⟨⟨⟨e1,e2⟩,e3⟩,e4⟩,e5⟩,e6⟩:=E
 intro h
 by_cases hk:cf.slow + 1 < c.phs.length
 ·have:=(e3 (cf.slow + 1) hk).resolve_left (by lia)
  rw [show c.ph (cf.slow + 1)=.D from h] at this; cases this
 ·rw [List.getD_eq_getElem?_getD,List.getElem?_eq_none (by lia)] at h; cases h
theorem Ahw {m:B1} (hm:m.lookup "mill" = some (.id .mill)):C3 (Bg (Ad "mill") (An (.str "stages"))) (B3 "stage") (Cp true) (Bg (Ad "stage") (An (.str "got"))) [] 1000 m (toA w')=some (.flist ((List.range c.gots.length).map fun s=>.id (.got s)),toA w'):=by
 obtain ⟨h1,h2,h3⟩:=Adi R S E
 apply D8
 ·exact Ax (Ac hm) Ah rfl
 have h:=Hi (v:=.id .stages) (xs:=sl c.gots.length) (nm := "stage") (σ:=toA w') (bt:=Cp true) (el:=Bg (Ad "stage") (An (.str "got"))) (P:=fun J=>True) (b:=fun J=>true) (e:=fun x=>match x with | .id (.stage s)=>.id (.got s) | _=>.none)
  (fun k=>B5 (by rw [← h2]; rfl)) (fun J J J=>trivial) (fun J J J J=>rfl) (fun x hx m J J=>by
   obtain ⟨s,hs,rfl⟩:=List.mem_map.mp hx
   exact Ax (Ac Bi) Ah (T5 (by rw [h1]; exact List.mem_range.mp hs) rfl)) 1000 0 [] (Gg m []) (by rw [Vf]; lia) (Nat.zero_le _) trivial
 rw [h]
 refine congrArg (fun z=>some (AVal.flist z,toA w')) ?_
 rw [List.nil_append,List.drop_zero,List.filter_eq_self.mpr (fun J J=>rfl)]
 unfold sl
 rw [List.map_map]; rfl
theorem Agd {m:B1} (hm:m.lookup "mill" = some (.id .mill)):C3 (Bg (Ad "mill") (An (.str "stages"))) (B3 "stage") (Cp true) (Bg (Bg (Ad "stage") (An (.str "got"))) (An (.int 0))) [] 1000 m (toA w')=some (.flist (iv (keepers a b)),toA w'):=by
 obtain ⟨h1,h2,h3⟩:=Adi R S E
 obtain ⟨g1,g2,g3,g4⟩:=Abr R S E
 apply D8
 ·exact Ax (Ac hm) Ah rfl
 have h:=Hi (v:=.id .stages) (xs:=sl c.gots.length) (nm := "stage") (σ:=toA w') (bt:=Cp true) (el:=Bg (Bg (Ad "stage") (An (.str "got"))) (An (.int 0))) (P:=fun J=>True) (b:=fun J=>true) (e:=fun x=>match x with | .id (.stage s)=>.int ((c.gots.getD s []).headD 0) | _=>.none)
  (fun k=>B5 (by rw [← h2]; rfl)) (fun J J J=>trivial) (fun J J J J=>rfl) (fun x hx m J J=>by
   obtain ⟨s,hs,rfl⟩:=List.mem_map.mp hx
   have hs:=List.mem_range.mp hs
   have hne:c.gots.getD s []≠[]:=g3 _ (by rw [List.getD_eq_getElem?_getD,List.getElem?_eq_getElem hs,← g1]; exact List.getElem_mem hs)
   apply Ax
   ·exact Ax (Ac Bi) Ah (T5 (by rw [h1]; exact hs) rfl)
   ·exact Ah
   ·rw [Mx (xs:=iv (c.gots.getD s [])) (by rw [← Ae0 R S E hs]; exact Lg (Xy (by rw [h1]; exact hs) rfl))]
    cases hc:c.gots.getD s [] with
    | nil=>exact absurd hc hne
    | cons x r =>
     show _=some (AVal.int ((c.gots.getD s []).headD 0))
     rw [hc]; rfl) 1000 0 [] (Gg m []) (by rw [Vf]; lia) (Nat.zero_le _) trivial
 rw [h]
 refine congrArg (fun z=>some (AVal.flist z,toA w')) ?_
 rw [List.nil_append,List.drop_zero,List.filter_eq_self.mpr (fun J J=>rfl),← g2,← g1]
 unfold sl iv
 rw [List.map_map,List.map_map]
 apply List.ext_getElem
 ·rw [List.length_map,List.length_map,List.length_range]
 intro i hi hi'
 rw [List.length_map] at hi'
 rw [List.getElem_map,List.getElem_map,List.getElem_range]
 show AVal.int ((c.gots.getD i []).headD 0)=.int ((c.gots[i]).headD 0)
 rw [List.getD_eq_getElem?_getD,List.getElem?_eq_getElem hi']; rfl
include htr
theorem Agf:cNe (toA w') (.flist ((List.range c.gots.length).map fun s=>.id (.got s))) (.id .rows)=some false:=by
 obtain ⟨h1,h2,h3⟩:=Adi R S E
 obtain ⟨g1,g2,g3,g4⟩:=Abr R S E
 have htr':w'.truth=fl rows:=by
  have:=R.fr.truth
  obtain ⟨T,M,G,g,s,rfl,_⟩:=S
  exact this.trans htr
 have hL:(toA w').lst (.id .rows)=some (fl rows):=by rw [← htr']; rfl
 show (((toA w').lst (.flist _)).bind fun xs=>((toA w').lst (.id .rows)).bind fun ys=>(toA w').seqEq xs ys).map _=_
 rw [hL]
 show ((toA w').seqEq ((List.range c.gots.length).map fun s=>.id (.got s)) (fl rows)).map _=_
 rw [Ag8 (a:=c.gots) (b:=rows),decide_eq_true g1]
 ·rfl
 ·obtain ⟨n,hn⟩:∃ n,c.gots.length=n + 1:=⟨c.gots.length - 1,by lia⟩
  rw [hn,List.range_succ_eq_map]; rfl
 ·rw [List.length_map,List.length_map,List.length_range,g1]
 ·refine Uk _ _ (by rw [List.length_map,List.length_range]) fun i x l hx hl=>?_
  have hi:i < c.gots.length:=(List.getElem?_eq_some_iff.mp hl).1
  rw [List.getElem?_map,List.getElem?_range hi] at hx
  cases hx
  have e:=Ae0 R S E hi
  rw [List.getD_eq_getElem?_getD,hl] at e
  rw [show iv l=(w'.S i).got from e.symm]
  exact Lg (Xy (by rw [h1]; exact hi) rfl)
 ·refine Uk _ _ (by rw [List.length_map]) fun i x l hx hl=>?_
  rw [List.getElem?_map,hl] at hx
  cases hx
  rfl
end
theorem Ahv {σ:AS} {m:B1} {a n:Int} (h1:1≤a) (h2:a≤900) (h3:a - 100≤n) (h4:n≤a + 100) (hm:m.lookup "first" = some (.int a)) (hn:m.lookup "n" = some (.int n)):C3 (Az Ft (Af (Ad "first") (Af (Ad "n") Ap))) (B3 "d") (Bs cEq (Fv K5 (Ad "n") (Ad "d")) (An (.int 0))) (Ad "d") ["n"] 1000 m σ=some (.flist (iv ((Gx a n).filter fun d=>decide (n.fmod d=0))),σ):=by
 apply D8
 ·exact Aw (Ae (Ac hm) (Ae (Ac hn) Au)) (Th (M5 (by lia) (by lia)) (M5 (by lia) (by lia)))
 have h:=Hi (v:=.rng a n) (xs:=iv (Gx a n)) (nm := "d") (σ:=σ) (bt:=(Bs cEq (Fv K5 (Ad "n") (Ad "d")) (An (.int 0)))) (el:=Ad "d") (P:=fun m=>m.lookup "n" = some (.int n)) (b:=fun y=>match y with | .int d=>decide (n.fmod d=0) | _=>false) (e:=fun y=>y)
  (fun k=>Ab0 k) (fun m y h=>(Cq (by decide)).trans h) (fun y hy m hm=>by
   obtain ⟨d,hd,rfl⟩:=List.mem_map.mp hy
   apply A4
   ·exact H0 (Ac ((Cq (by decide)).trans hm)) (Ac Bi) (if_neg (Afl h1 d hd))
   ·exact Ah
   ·exact Acn) (fun y hy m hm J=>Ac Bi) 1000 0 [] (Gg m ["n"]) (by rw [List.length_map,Va]; lia) (Nat.zero_le _) ((Aiu m).trans hn)
 rw [h]
 refine congrArg (fun z=>some (AVal.flist z,σ)) ?_
 rw [List.nil_append,List.drop_zero,List.map_id',List.filter_map]; rfl
theorem Agr {σ:AS} {m:B1} {a b:Int} (h1:1≤a) (h2:a≤100) (h3:b≤a + 15) (h4:-50≤b) (hm:m.lookup "first" = some (.int a)) (hb:m.lookup "last" = some (.int b)):C3 (Az Ft (Af (Ad "first") (Af (Fv Pb (Ad "last") (An (.int 1))) Ap))) (B3 "n") (Bs cEq (C3 (Az Ft (Af (Ad "first") (Af (Ad "n") Ap))) (B3 "d") (Bs cEq (Fv K5 (Ad "n") (Ad "d")) (An (.int 0))) (Ad "d") ["n"] 1000) (Db Ap)) (Ad "n") ["first"] 1000 m σ=some (.flist (iv (keepers a b)),σ):=by
 apply D8
 ·exact Aw (Ae (Ac hm) (Ae (H0 (Ac hb) Ah rfl) Au)) (Th (M5 (by lia) (by lia)) (M5 (by lia) (by lia)))
 have h:=Hi (v:=.rng a (b + 1)) (xs:=iv (Gx a (b + 1))) (nm := "n") (σ:=σ) (bt:=(Bs cEq (C3 (Az Ft (Af (Ad "first") (Af (Ad "n") Ap))) (B3 "d") (Bs cEq (Fv K5 (Ad "n") (Ad "d")) (An (.int 0))) (Ad "d") ["n"] 1000) (Db Ap))) (el:=Ad "n") (P:=fun m=>m.lookup "first" = some (.int a)) (b:=fun y=>match y with | .int n=>((Gx a n).filter fun d=>decide (n.fmod d=0)).isEmpty | _=>false) (e:=fun y=>y)
  (fun k=>Ab0 k) (fun m y h=>(Cq (by decide)).trans h) (fun y hy m hm=>by
   obtain ⟨n,hn,rfl⟩:=List.mem_map.mp hy
   obtain ⟨i,hi,rfl⟩:=List.mem_map.mp hn
   have hi:=List.mem_range.mp hi
   apply A4
   ·exact Ahv h1 (by lia) (by lia) (by lia) ((Cq (by decide)).trans hm) Bi
   ·exact Cj Au (Nat.zero_le _)
   ·refine R5.trans ?_
    unfold iv
    rw [List.isEmpty_map]) (fun y hy m hm J=>Ac Bi) 1000 0 [] (Gg m ["first"]) (by rw [List.length_map,Va]; lia) (Nat.zero_le _) ((Aiu m).trans hm)
 rw [h]
 refine congrArg (fun z=>some (AVal.flist z,σ)) ?_
 rw [List.nil_append,List.drop_zero,List.map_id',List.filter_map]; rfl
theorem Alg {cf:Conf} {c:Cst} {w w':Ws} {rows:List (List Int)} {a b:Int} (R:Rep cf c w) (S:Same w w') (E:Rr rows (keepers a b) c=true) (htr:cf.truth=fl rows) (h1:1≤a) (h2:a≤100) (h3:b≤a + 15) (h4:-50≤b) {m:B1} (hm:LocP m) (ha:m.lookup "first" = some (.int a)) (hb:m.lookup "last" = some (.int b)):∃ m',Agb m (toA w')=some (.ret (.bool true),m',toA w'):=by
 refine ⟨Bd m "keepers" (.flist (iv (keepers a b))),?_⟩
 unfold Agb
 apply Ak
 ·apply Br
  ·apply Ku
   ·exact A4 (Ahw R S E hm.mi) (Ax (Ac hm.mi) Ah rfl) (Agf R S E htr)
   ·apply Dj rfl
    apply Ku
    ·apply A4
     ·exact Ay (Ay (Ac hm.tk) rfl) rfl
     ·exact Ax (Ac hm.mi) Ah rfl
     ·show some (!decide (w'.now=w'.rests))=some false
      rw [Age R S E,decide_eq_true rfl]; rfl
    ·exact Dj rfl rfl
  exact Ar
 apply Ak
 ·exact A7 (Agd R S E hm.mi)
 apply A8
 apply B7
 apply Gv
 ·exact Ac Bi
 ·exact Agr h1 h2 h3 h4 ((Cq (by decide)).trans ha) ((Cq (by decide)).trans hb)
 ·show (toA w').seqEq (iv (keepers a b)) (iv (keepers a b))=_
  rw [Acs,decide_eq_true rfl]
end
section
noncomputable def rW (tr left:List AVal) (nst pat:Bool) (slow:Int) (wis:AVal):Ws:=((((wI tr left nst pat slow wis).s_nums 1).newT (Dr 1 "source" (.id .lib))).s_lib (MS.s_deps ⟨0,false,[]⟩ [.id (.task 0)])).s_tn 1
noncomputable def rT:TS:=((Dr 1 "source" (.id .lib)).s_st "ready").s_act .none
noncomputable def rW2 (tr left:List AVal) (nst pat:Bool) (slow:Int) (wis:AVal):Ws:=(rW tr left nst pat slow wis).setT 0 rT
noncomputable def rW3 (tr left:List AVal) (nst pat:Bool) (slow:Int) (wis:AVal):Ws:=(rW2 tr left nst pat slow wis).s_lib ((rW2 tr left nst pat slow wis).lib.s_ended true)
section
variable {tr left:List AVal} {nst pat:Bool} {slow:Int} {wis:AVal}
theorem Ak5:G6 [.id .tasking] (toA (rW2 tr left nst pat slow wis))=some (.none,toA (rW3 tr left nst pat slow wis)):=by
 generalize hw:rW2 tr left nst pat slow wis=w
 have hn:0 < w.n:=by rw [← hw]; exact Nat.zero_lt_one
 have hT:w.T 0=rT:=by rw [← hw]; rfl
 have hd:toR w .libDeps=some (.list [.id (.task 0)]):=by rw [← hw]; rfl
 have hdr:Gp [.id .lib] (toA w)=some (.none,toA w):=by
  apply Ch rfl
  unfold Ie
  apply Ak
  ·apply D4
   ·exact Ay (Ac rfl) rfl
   apply Fj
   ·exact B5 hd
   ·exact rfl
   ·apply Ak
    ·apply Br
     ·exact A4 (Ay (Ac rfl) (Dw hn hT)) Ah rfl
     exact Ar
    exact Ar
   apply Eh
   exact B5 hd
  exact Ar
 unfold rW3
 rw [hw]
 apply Ch rfl
 unfold J0
 apply Ak
 ·exact Bo (Aw (Ae (Ay (Ac rfl) rfl) Au) hdr)
 apply Ak
 ·exact Ca Ah (Ay (Ac rfl) rfl) Aiz
 exact Ar
theorem Ag7 {cf:Conf} {a b:Int} (h1:cf.nst=nst) (h2:cf.pat=pat) (h3:(cf.slow:Int)=slow) (h4:cf.truth=tr) (h5:wis=.flist (iv cf.ws)) (h6:left=iv (Gx a (b + 1))):Rep cf (Yo a b) (rW3 tr left nst pat slow wis):=by
 subst h1 h2 h3 h4 h5 h6
 refine ⟨⟨rfl,rfl,rfl,rfl,(show 1 < 40 by decide),rfl,rfl,rfl,rfl,rfl,rfl,fun J=>rfl,fun J=>rfl,rfl,?_,?_,fun J J=>rfl,fun J J=>rfl⟩,rfl,rfl,rfl,?_,?_,?_⟩
 ·intro i j h1 h2
  have h2:j < 1:=h2
  lia
 ·intro i hi
  have hi:i < 1:=hi
  have:i=0:=by lia
  subst this
  exact Int.le_refl _
 ·intro s hs
  exact absurd (show s < 0 from hs) (Nat.not_lt_zero s)
 ·intro k hk
  have hk:k < 1:=hk
  have:k=0:=by lia
  subst this
  have hph:(Yo a b).ph 0=.RI:=rfl
  rw [show (0:Nat) - 1=0 from rfl,hph]
  refine ⟨⟨rfl,rfl,rfl⟩,fun h=>(by cases h),rfl,rfl,rfl,rfl,rfl,fun J=>rfl,fun h=>(by cases h),fun J=>rfl,fun h=>absurd rfl h,fun J=>⟨rfl,rfl⟩,fun J h=>absurd (show 0 + 1 < 1 from h) (by lia),rfl,fun J=>⟨(by decide),(by decide),(by decide),(by decide),(by decide)⟩,fun h=>absurd rfl h,fun h=>(by cases h),fun h=>absurd rfl h⟩
 ·show (0:Int)=0 + if (Yo a b).phs.getD (cf.slow + 1) .X=.D then 1 else 0
  rw [if_neg]
  ·rfl
  ·exact (show ([]:List Ph).getD cf.slow .X≠.D from fun h=>(by cases h))
end
noncomputable def Ajt:SD:=(Am (Bb "feeder" (Az Gb (Af (Ad "tasking") (Af (An (.str "source")) (Af (A1 (Ad "tasking") "library") (Af (An (.int 1)) Ap)))))) (Am (Bw (Az D1 (Af (An .none) (Af (Db (Af (Ad "feeder") Ap)) Ap)))) (Am (Bw (Az G6 (Af (Ad "tasking") Ap))) (Am (Am (Bb "task" (Az Cg (Af (Ad "tasking") Ap))) (Am (D5 Ab6 R0 1000) Aq)) Agb))))
theorem Ale:Ve=Aiv Ajt:=rfl
theorem Aom {tr left:List AVal} {nst pat:Bool} {slow:Int} {wis:AVal} {ns:List Int} {a b:Int} {q:Option (AFl×B1×AS)} (H:Am (Am (Bb "task" (Az Cg (Af (Ad "tasking") Ap))) (Am (D5 Ab6 R0 1000) Aq)) Agb (Bd (mB2 ns a b) "feeder" (.id (.task 0))) (toA (rW3 tr left nst pat slow wis))=q):Ajt (mB2 ns a b) (toA (wI tr left nst pat slow wis))=q:=by
 unfold Ajt
 apply Ak
 ·apply A7
  apply Aw
  ·exact Ae (Ac rfl) (Ae Ah (Ae (Ay (Ac rfl) rfl) (Ae Ah Au)))
  ·exact I6 (w:=wI tr left nst pat slow wis) rfl (show 0 < 50 by decide) (show 0 < 1000000 by decide)
 apply Ak
 ·apply Bo
  apply Aw
  ·exact Ae Ah (Ae (Cj (Ae (Ac rfl) Au) (Nat.le_of_ble_eq_true rfl)) Au)
  ·exact Aei (w:=rW tr left nst pat slow wis) (i:=0) (t:=Dr 1 "source" (.id .lib)) Nat.zero_lt_one rfl rfl
 apply Ak
 ·exact Bo (Aw (Ae (Ac rfl) Au) Ak5)
 exact H
theorem Aif {w w₁ w':Ws} {v u:AVal} {m m' m2:B1} (hm:LocP m) (e1:Cg [.id .tasking] (toA w)=some (v,toA w₁)) (e2:D5 Ab6 R0 1000 (Bd m "task" v) (toA w₁)=some (.next,m',toA w')) (e3:Agb m' (toA w')=some (.ret u,m2,toA w')) :
  Am (Am (Bb "task" (Az Cg (Af (Ad "tasking") Ap))) (Am (D5 Ab6 R0 1000) Aq)) Agb m (toA w)=some (.ret u,m2,toA w'):=by
 apply Ak
 ·apply Ak
  ·exact A7 (Aw (Ae (Ac hm.tk) Au) e1)
  apply Ak e2
  exact Ar
 exact e3
theorem Ab4 {ns:List Int} {a b:Int}:LocP (Bd (mB2 ns a b) "feeder" (.id (.task 0))):=⟨rfl,rfl,rfl,rfl⟩
theorem fm {x k:Int} (hk:0 < k):0≤x.fmod k∧x.fmod k < k:=⟨Int.fmod_nonneg_of_pos _ hk,Int.fmod_lt_of_pos _ hk⟩
theorem law_runs {ns:List Int} (hl:ns.length≤63) (hP:Ee (2 + toldV ns 0 3) (14 - (2 + toldV ns 0 3) - toldV ns 1 7)=true):∃ σ',Q7 ns=some (.bool true,σ'):=by
 have b0:0≤toldV ns 0 3∧toldV ns 0 3 < 3:=fm (by decide)
 have b1:0≤toldV ns 1 7∧toldV ns 1 7 < 7:=fm (by decide)
 have b4:0≤toldV ns 4 4∧toldV ns 4 4 < 4:=fm (by decide)
 generalize ha:2 + toldV ns 0 3=a at hP
 generalize hb:14 - a - toldV ns 1 7=b at hP
 have h1:1≤a:=by lia
 have h2:a≤100:=by lia
 have h3:b≤a + 15:=by lia
 have h4:-50≤b:=by lia
 obtain ⟨slow,hslow⟩:∃ n:Nat,(n:Int)=toldV ns 4 4:=⟨(toldV ns 4 4).toNat,by lia⟩
 have hR:=Ag7 (slow:=toldV ns 4 4) (tr:=fl (Ho 20 (Gx a (b + 1)))) (wis:=.flist (iv (S1 ns))) (cf:=⟨decide (toldV ns 2 2=1),decide (toldV ns 3 2=1),slow,fl (Ho 20 (Gx a (b + 1))),S1 ns⟩) (a:=a) (b:=b) rfl rfl hslow rfl rfl rfl
 have hex:O9 (decide (toldV ns 3 2=1)) slow (Ho 20 (Gx a (b + 1))) (keepers a b) 250 [Yo a b]=true:=by
  have hp:=List.all_eq_true.mp hP (decide (toldV ns 3 2=1)) (by cases decide (toldV ns 3 2=1) <;> decide)
  exact List.all_eq_true.mp hp slow (List.mem_range.mpr (by lia))
 have hG:=Pa 250 _ hex (Yo a b) (by simp)
 obtain ⟨v,w₁,e1,hloop⟩:=Agw (cf:=⟨decide (toldV ns 2 2=1),decide (toldV ns 3 2=1),slow,fl (Ho 20 (Gx a (b + 1))),S1 ns⟩) (rows:=Ho 20 (Gx a (b + 1))) (keep:=keepers a b) rfl (Amc ns) 250 _ _ hG hR (show 0 + 250 < 800000 by decide)
 obtain ⟨m',w',cF,wF,e2,hm',hk,RF,SF,EF⟩:=hloop _ (Ab4 (ns:=ns) (a:=a) (b:=b)) 1000 (by decide)
 obtain ⟨m2,e3⟩:=Alg RF SF EF rfl h1 h2 h3 h4 hm' ((hk "first" (by decide)).trans rfl) ((hk "last" (by decide)).trans rfl)
 have eB:Ve (mB ns a b) (σc (.flist (iv (S1 ns))))=some (.ret (.bool true),m2,toA w'):=by
  rw [Ale]
  refine Aok hl h1 h2 h3 (by lia) ?_
  refine Aom ?_
  rw [← hslow] at e1 ⊢
  exact Aif Ab4 e1 e2 e3
 refine ⟨toA w',?_⟩
 unfold Q7
 have eA:=Aoi hl
 rw [ha,hb] at eA
 rw [show ns.map AVal.int=iv ns from rfl,eA,Option.bind_some]
 dsimp only
 rw [show (mA ns a b).lookup "steps" = some (.id .steps) from rfl,Option.bind_some,show (mA ns a b).lookup "wishes" = some (.flist (iv (S1 ns))) from rfl,Option.bind_some]
 rw [show (σ00.add .steps (.list [])).R .scell=none from rfl,show (σ00.add .steps (.list [])).R .wcell=none from rfl,show (σ00.add .steps (.list [])).R .chooser=none from rfl]
 dsimp only
 rw [show Bd (X6 (mA ns a b) ["steps", "wishes"]) "chooser" (.id .chooser)=mB ns a b from rfl,show Abj (σ00.add .steps (.list [])) (.id .steps) (.flist (iv (S1 ns)))=σc (.flist (iv (S1 ns))) from rfl,eB]
 rfl
end
theorem Ai1:Ee 2 12=true:=by decide +kernel
theorem Ai2:Ee 2 11=true:=by decide +kernel
theorem Ai3:Ee 2 10=true:=by decide +kernel
theorem Ai4:Ee 2 9=true:=by decide +kernel
theorem Ai5:Ee 2 8=true:=by decide +kernel
theorem Ai6:Ee 2 7=true:=by decide +kernel
theorem Ai7:Ee 2 6=true:=by decide +kernel
theorem Ai8:Ee 3 11=true:=by decide +kernel
theorem Ai9:Ee 3 10=true:=by decide +kernel
theorem Aja:Ee 3 9=true:=by decide +kernel
theorem Ajb:Ee 3 8=true:=by decide +kernel
theorem Ajc:Ee 3 7=true:=by decide +kernel
theorem Ajd:Ee 3 6=true:=by decide +kernel
theorem Aje:Ee 3 5=true:=by decide +kernel
theorem Ajf:Ee 4 10=true:=by decide +kernel
theorem Ajg:Ee 4 9=true:=by decide +kernel
theorem Ajh:Ee 4 8=true:=by decide +kernel
theorem Aji:Ee 4 7=true:=by decide +kernel
theorem Ajj:Ee 4 6=true:=by decide +kernel
theorem Ajk:Ee 4 5=true:=by decide +kernel
theorem Ajl:Ee 4 4=true:=by decide +kernel
theorem plans {ns:List Int}:Ee (2 + toldV ns 0 3) (14 - (2 + toldV ns 0 3) - toldV ns 1 7)=true:=by
 have b0:0≤toldV ns 0 3∧toldV ns 0 3 < 3:=fm (by decide)
 have b1:0≤toldV ns 1 7∧toldV ns 1 7 < 7:=fm (by decide)
 generalize toldV ns 0 3=x at *
 generalize toldV ns 1 7=y at *
 obtain ⟨i,rfl⟩:∃ i:Nat,x=i:=⟨x.toNat,by lia⟩
 obtain ⟨j,rfl⟩:∃ j:Nat,y=j:=⟨y.toNat,by lia⟩
 have hi:i < 3:=by lia
 have hj:j < 7:=by lia
 match i,hi,j,hj with
 | 0,_,0,_=>exact Ai1
 | 0,_,1,_=>exact Ai2
 | 0,_,2,_=>exact Ai3
 | 0,_,3,_=>exact Ai4
 | 0,_,4,_=>exact Ai5
 | 0,_,5,_=>exact Ai6
 | 0,_,6,_=>exact Ai7
 | 1,_,0,_=>exact Ai8
 | 1,_,1,_=>exact Ai9
 | 1,_,2,_=>exact Aja
 | 1,_,3,_=>exact Ajb
 | 1,_,4,_=>exact Ajc
 | 1,_,5,_=>exact Ajd
 | 1,_,6,_=>exact Aje
 | 2,_,0,_=>exact Ajf
 | 2,_,1,_=>exact Ajg
 | 2,_,2,_=>exact Ajh
 | 2,_,3,_=>exact Aji
 | 2,_,4,_=>exact Ajj
 | 2,_,5,_=>exact Ajk
 | 2,_,6,_=>exact Ajl
end Mine
theorem PySem.Challenge.cw_sz0010_01_holds : PySem.Challenge.rw_sz0010_01.Holds := by
 exact Mine.holds_of_run fun ns hl => Mine.law_runs hl Mine.plans
