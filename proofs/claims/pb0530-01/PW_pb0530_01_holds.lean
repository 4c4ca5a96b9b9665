import PyProof.Rows.All
import Wide.All
import OpenK.AllK
import Wide.FinOn
import PySem.Challenge.RW_pb0530_01
set_option Elab.async false
set_option bootstrap.genMatcherCode false
section
open PySem PySem.W PyProof.Rows
set_option maxRecDepth 100000
set_option maxHeartbeats 8000000
namespace Mine
noncomputable abbrev pw : Program := PySem.Challenge.pw_pb0530_01
/- the text's own objects, as the top leaves them -/
noncomputable def fnO (name qual : Str) (args : Arguments) (body : List Stmt) (sc : Scope) (code : Nat) (md : Str) (tok : Nat) : Obj :=
  { cls := .type "function", data := .func { name := name, qualname := qual, params := args, body := .stmts body, scope := sc, globals := 3, closure := [], defaults := .none, kwdefaults := .none, pyModule := .str md tok, code := .ref code, builtins := 0 } }
noncomputable def topF (i code : Nat) (md : Str) (tok : Nat) : Obj := match pw.main.body[i]? with
  | some (.FunctionDef name args body _ _ _ sc _ _ _) => fnO name name args body sc code md tok
  | _ => default
noncomputable def methF (i j : Nat) (cn : Str) (code : Nat) (md : Str) (tok : Nat) : Obj := match pw.main.body[i]? with
  | some (.ClassDef _ _ _ b _ _ _ _ _ _ _) => match b[j]? with
    | some (.FunctionDef name args body _ _ _ sc _ _ _) => fnO name (cn ++ "." ++ name) args body sc code md tok
    | _ => default
  | _ => default
noncomputable def K (P : Params) : Frag := [
  (3, Obj.mk (Value.type "dict") none (Data.dict #[DictEntry.mk (PyData.keyHash P (Str.ofString "__name__")) (Value.str (Str.ofString "__name__") 165) (Value.str (Str.ofString "law_pb0530_01") 893), DictEntry.mk (PyData.keyHash P (Str.ofString "__doc__")) (Value.str (Str.ofString "__doc__") 166) Value.none, DictEntry.mk (PyData.keyHash P (Str.ofString "__package__")) (Value.str (Str.ofString "__package__") 167) Value.none, DictEntry.mk (PyData.keyHash P (Str.ofString "__loader__")) (Value.str (Str.ofString "__loader__") 168) (Value.builtin "__main__.__loader__#opaque"), DictEntry.mk (PyData.keyHash P (Str.ofString "__spec__")) (Value.str (Str.ofString "__spec__") 169) Value.none, DictEntry.mk (PyData.keyHash P (Str.ofString "__annotations__")) (Value.str (Str.ofString "__annotations__") 170) (Value.ref 6), DictEntry.mk (PyData.keyHash P (Str.ofString "__builtins__")) (Value.str (Str.ofString "__builtins__") 171) (Value.ref 4), DictEntry.mk (PyData.keyHash P (Str.ofString "__file__")) (Value.str (Str.ofString "__file__") 173) (Value.str (Str.ofString "/claim/cut.py") 172), DictEntry.mk (PyData.keyHash P (Str.ofString "__cached__")) (Value.str (Str.ofString "__cached__") 174) Value.none, DictEntry.mk (PyData.keyHash P (Str.ofString "INTERNAL_ERROR")) (Value.str (Str.ofString "INTERNAL_ERROR") 190) (Value.int 1 189), DictEntry.mk (PyData.keyHash P (Str.ofString "QuicError")) (Value.str (Str.ofString "QuicError") 223) (Value.ref 31), DictEntry.mk (PyData.keyHash P (Str.ofString "Short")) (Value.str (Str.ofString "Short") 252) (Value.ref 51), DictEntry.mk (PyData.keyHash P (Str.ofString "PacketRefused")) (Value.str (Str.ofString "PacketRefused") 281) (Value.ref 71), DictEntry.mk (PyData.keyHash P (Str.ofString "VARINT_SIZES")) (Value.str (Str.ofString "VARINT_SIZES") 288) (Value.ref 75), DictEntry.mk (PyData.keyHash P (Str.ofString "put_whole")) (Value.str (Str.ofString "put_whole") 298) (Value.ref 82), DictEntry.mk (PyData.keyHash P (Str.ofString "get_whole")) (Value.str (Str.ofString "get_whole") 309) (Value.ref 89), DictEntry.mk (PyData.keyHash P (Str.ofString "varint_size")) (Value.str (Str.ofString "varint_size") 317) (Value.ref 96), DictEntry.mk (PyData.keyHash P (Str.ofString "put_varint")) (Value.str (Str.ofString "put_varint") 326) (Value.ref 103), DictEntry.mk (PyData.keyHash P (Str.ofString "get_varint")) (Value.str (Str.ofString "get_varint") 335) (Value.ref 110), DictEntry.mk (PyData.keyHash P (Str.ofString "Reader")) (Value.str (Str.ofString "Reader") 406) (Value.ref 162), DictEntry.mk (PyData.keyHash P (Str.ofString "VERSION_ONE")) (Value.str (Str.ofString "VERSION_ONE") 410) (Value.int 1 409), DictEntry.mk (PyData.keyHash P (Str.ofString "VERSION_NONE")) (Value.str (Str.ofString "VERSION_NONE") 412) (Value.int 0 411), DictEntry.mk (PyData.keyHash P (Str.ofString "MOST_CID")) (Value.str (Str.ofString "MOST_CID") 414) (Value.int 20 413), DictEntry.mk (PyData.keyHash P (Str.ofString "RETRY_TAG")) (Value.str (Str.ofString "RETRY_TAG") 416) (Value.int 16 415), DictEntry.mk (PyData.keyHash P (Str.ofString "LONG_KINDS")) (Value.str (Str.ofString "LONG_KINDS") 421) (Value.ref 167), DictEntry.mk (PyData.keyHash P (Str.ofString "RawPacket")) (Value.str (Str.ofString "RawPacket") 463) (Value.ref 184), DictEntry.mk (PyData.keyHash P (Str.ofString "put_ids")) (Value.str (Str.ofString "put_ids") 471) (Value.ref 195), DictEntry.mk (PyData.keyHash P (Str.ofString "long_first")) (Value.str (Str.ofString "long_first") 479) (Value.ref 202), DictEntry.mk (PyData.keyHash P (Str.ofString "long_head")) (Value.str (Str.ofString "long_head") 493) (Value.ref 209), DictEntry.mk (PyData.keyHash P (Str.ofString "put_negotiation")) (Value.str (Str.ofString "put_negotiation") 499) (Value.ref 214), DictEntry.mk (PyData.keyHash P (Str.ofString "put_retry")) (Value.str (Str.ofString "put_retry") 512) (Value.ref 221), DictEntry.mk (PyData.keyHash P (Str.ofString "read_invariants")) (Value.str (Str.ofString "read_invariants") 525) (Value.ref 228), DictEntry.mk (PyData.keyHash P (Str.ofString "read_versions")) (Value.str (Str.ofString "read_versions") 535) (Value.ref 235), DictEntry.mk (PyData.keyHash P (Str.ofString "read_long")) (Value.str (Str.ofString "read_long") 549) (Value.ref 242), DictEntry.mk (PyData.keyHash P (Str.ofString "read_retry")) (Value.str (Str.ofString "read_retry") 558) (Value.ref 249), DictEntry.mk (PyData.keyHash P (Str.ofString "read_numbered")) (Value.str (Str.ofString "read_numbered") 569) (Value.ref 256), DictEntry.mk (PyData.keyHash P (Str.ofString "read_short")) (Value.str (Str.ofString "read_short") 580) (Value.ref 263), DictEntry.mk (PyData.keyHash P (Str.ofString "read_raw")) (Value.str (Str.ofString "read_raw") 589) (Value.ref 270), DictEntry.mk (PyData.keyHash P (Str.ofString "split_datagram")) (Value.str (Str.ofString "split_datagram") 600) (Value.ref 277), DictEntry.mk (PyData.keyHash P (Str.ofString "TAG_SIZE")) (Value.str (Str.ofString "TAG_SIZE") 604) (Value.int 16 603), DictEntry.mk (PyData.keyHash P (Str.ofString "SAMPLE_SIZE")) (Value.str (Str.ofString "SAMPLE_SIZE") 606) (Value.int 16 605), DictEntry.mk (PyData.keyHash P (Str.ofString "MASK_SIZE")) (Value.str (Str.ofString "MASK_SIZE") 608) (Value.int 5 607), DictEntry.mk (PyData.keyHash P (Str.ofString "MODULUS")) (Value.str (Str.ofString "MODULUS") 614) (Value.int 170141183460469231731687303715884105727 613), DictEntry.mk (PyData.keyHash P (Str.ofString "FACTOR")) (Value.str (Str.ofString "FACTOR") 616) (Value.int 6364136223846793005 615), DictEntry.mk (PyData.keyHash P (Str.ofString "RETRY_KEY")) (Value.str (Str.ofString "RETRY_KEY") 618) (Value.bytes #[114, 101, 116, 114, 121] 617), DictEntry.mk (PyData.keyHash P (Str.ofString "mixed_octets")) (Value.str (Str.ofString "mixed_octets") 628) (Value.ref 284), DictEntry.mk (PyData.keyHash P (Str.ofString "turned_octets")) (Value.str (Str.ofString "turned_octets") 640) (Value.ref 291), DictEntry.mk (PyData.keyHash P (Str.ofString "tag_of")) (Value.str (Str.ofString "tag_of") 651) (Value.ref 298), DictEntry.mk (PyData.keyHash P (Str.ofString "seal_payload")) (Value.str (Str.ofString "seal_payload") 662) (Value.ref 305), DictEntry.mk (PyData.keyHash P (Str.ofString "head_mask")) (Value.str (Str.ofString "head_mask") 670) (Value.ref 312), DictEntry.mk (PyData.keyHash P (Str.ofString "turned_first")) (Value.str (Str.ofString "turned_first") 678) (Value.ref 319), DictEntry.mk (PyData.keyHash P (Str.ofString "turned_number")) (Value.str (Str.ofString "turned_number") 684) (Value.ref 324), DictEntry.mk (PyData.keyHash P (Str.ofString "sample_at")) (Value.str (Str.ofString "sample_at") 693) (Value.ref 331), DictEntry.mk (PyData.keyHash P (Str.ofString "padded_payload")) (Value.str (Str.ofString "padded_payload") 702) (Value.ref 338), DictEntry.mk (PyData.keyHash P (Str.ofString "protected_packet")) (Value.str (Str.ofString "protected_packet") 717) (Value.ref 345), DictEntry.mk (PyData.keyHash P (Str.ofString "LEAST_INITIAL")) (Value.str (Str.ofString "LEAST_INITIAL") 721) (Value.int 1200 720), DictEntry.mk (PyData.keyHash P (Str.ofString "wants_negotiation")) (Value.str (Str.ofString "wants_negotiation") 730) (Value.ref 352), DictEntry.mk (PyData.keyHash P (Str.ofString "negotiation_answer")) (Value.str (Str.ofString "negotiation_answer") 739) (Value.ref 359), DictEntry.mk (PyData.keyHash P (Str.ofString "chosen_version")) (Value.str (Str.ofString "chosen_version") 756) (Value.ref 366), DictEntry.mk (PyData.keyHash P (Str.ofString "retry_tag")) (Value.str (Str.ofString "retry_tag") 764) (Value.ref 373), DictEntry.mk (PyData.keyHash P (Str.ofString "put_retry_packet")) (Value.str (Str.ofString "put_retry_packet") 777) (Value.ref 380), DictEntry.mk (PyData.keyHash P (Str.ofString "takes_retry")) (Value.str (Str.ofString "takes_retry") 794) (Value.ref 387), DictEntry.mk (PyData.keyHash P (Str.ofString "token_for")) (Value.str (Str.ofString "token_for") 805) (Value.ref 394), DictEntry.mk (PyData.keyHash P (Str.ofString "check_token")) (Value.str (Str.ofString "check_token") 819) (Value.ref 401), DictEntry.mk (PyData.keyHash P (Str.ofString "MOST_OCTETS")) (Value.str (Str.ofString "MOST_OCTETS") 823) (Value.int 4 822), DictEntry.mk (PyData.keyHash P (Str.ofString "number_size")) (Value.str (Str.ofString "number_size") 833) (Value.ref 408), DictEntry.mk (PyData.keyHash P (Str.ofString "cut_number")) (Value.str (Str.ofString "cut_number") 842) (Value.ref 415), DictEntry.mk (PyData.keyHash P (Str.ofString "short_head")) (Value.str (Str.ofString "short_head") 854) (Value.ref 422), DictEntry.mk (PyData.keyHash P (Str.ofString "head_of")) (Value.str (Str.ofString "head_of") 866) (Value.ref 429), DictEntry.mk (PyData.keyHash P (Str.ofString "number_in")) (Value.str (Str.ofString "number_in") 873) (Value.ref 436), DictEntry.mk (PyData.keyHash P (Str.ofString "put_packet")) (Value.str (Str.ofString "put_packet") 885) (Value.ref 443), DictEntry.mk (PyData.keyHash P (Str.ofString "bare_packet")) (Value.str (Str.ofString "bare_packet") 892) (Value.ref 450), DictEntry.mk (PyData.keyHash P (Str.ofString "_law_take")) (Value.str (Str.ofString "_law_take") 902) (Value.ref 457), DictEntry.mk (PyData.keyHash P (Str.ofString "_law_other")) (Value.str (Str.ofString "_law_other") 909) (Value.ref 464), DictEntry.mk (PyData.keyHash P (Str.ofString "_law_first")) (Value.str (Str.ofString "_law_first") 916) (Value.ref 471), DictEntry.mk (PyData.keyHash P (Str.ofString "_law_versions")) (Value.str (Str.ofString "_law_versions") 922) (Value.ref 476), DictEntry.mk (PyData.keyHash P (Str.ofString "_law_retry")) (Value.str (Str.ofString "_law_retry") 938) (Value.ref 483), DictEntry.mk (PyData.keyHash P (Str.ofString "_law_server_right")) (Value.str (Str.ofString "_law_server_right") 949) (Value.ref 490), DictEntry.mk (PyData.keyHash P (Str.ofString "law")) (Value.str (Str.ofString "law") 955) (Value.ref 495)] 79) #[]),
  (75, Obj.mk (Value.type "tuple") none (Data.seq #[Value.int 1 284, Value.int 2 285, Value.int 4 286, Value.int 8 287]) #[]),
  (82, topF 7 81 "quic.varint" 282),
  (89, topF 8 88 "quic.varint" 282),
  (96, topF 9 95 "quic.varint" 282),
  (103, topF 10 102 "quic.varint" 282),
  (110, topF 11 109 "quic.varint" 282),
  (124, methF 13 0 "Reader" 123 "quic.octets" 336),
  (131, methF 13 1 "Reader" 130 "quic.octets" 336),
  (138, methF 13 2 "Reader" 137 "quic.octets" 336),
  (145, methF 13 3 "Reader" 144 "quic.octets" 336),
  (152, methF 13 4 "Reader" 151 "quic.octets" 336),
  (159, methF 13 5 "Reader" 158 "quic.octets" 336),
  (160, Obj.mk (Value.type "tuple") none (Data.seq #[Value.str (Str.ofString "at") 397, Value.str (Str.ofString "data") 398]) #[]),
  (161, Obj.mk (Value.type "dict") none (Data.dict #[DictEntry.mk (PyData.keyHash P (Str.ofString "__module__")) (Value.str (Str.ofString "__module__") 345) (Value.str (Str.ofString "quic.octets") 336), DictEntry.mk (PyData.keyHash P (Str.ofString "__firstlineno__")) (Value.str (Str.ofString "__firstlineno__") 349) (Value.int 55 348), DictEntry.mk (PyData.keyHash P (Str.ofString "__init__")) (Value.str (Str.ofString "__init__") 357) (Value.ref 124), DictEntry.mk (PyData.keyHash P (Str.ofString "left")) (Value.str (Str.ofString "left") 364) (Value.ref 131), DictEntry.mk (PyData.keyHash P (Str.ofString "take")) (Value.str (Str.ofString "take") 372) (Value.ref 138), DictEntry.mk (PyData.keyHash P (Str.ofString "rest")) (Value.str (Str.ofString "rest") 379) (Value.ref 145), DictEntry.mk (PyData.keyHash P (Str.ofString "whole")) (Value.str (Str.ofString "whole") 388) (Value.ref 152), DictEntry.mk (PyData.keyHash P (Str.ofString "varint")) (Value.str (Str.ofString "varint") 396) (Value.ref 159), DictEntry.mk (PyData.keyHash P (Str.ofString "__static_attributes__")) (Value.str (Str.ofString "__static_attributes__") 399) (Value.ref 160), DictEntry.mk (PyData.keyHash P (Str.ofString "__dict__")) (Value.str (Str.ofString "__dict__") 401) (Value.ref 163), DictEntry.mk (PyData.keyHash P (Str.ofString "__weakref__")) (Value.str (Str.ofString "__weakref__") 403) (Value.ref 164), DictEntry.mk (PyData.keyHash P (Str.ofString "__doc__")) (Value.str (Str.ofString "__doc__") 404) Value.none] 4) #[]),
  (162, Obj.mk (Value.type "type") none (Data.cls (ClassData.mk (Str.ofString "Reader") [Value.type "object"] [Value.ref 162, Value.type "object"] 161 (Str.ofString "Reader") true [] [] false none false)) #[none, none, some (Value.str (Str.ofString "Reader") 338), some (Value.str (Str.ofString "Reader") 346), some (Value.builtin "object.__new__"), some (Value.bool true)]),
  (163, Obj.mk (Value.type "getset_descriptor") none (Data.fields #[Value.str (Str.ofString "__dict__") 400, Value.ref 162, Value.builtin "function.__dict__", Value.builtin "function.__dict__#set"]) #[]),
  (164, Obj.mk (Value.type "getset_descriptor") none (Data.fields #[Value.str (Str.ofString "__weakref__") 402, Value.ref 162, Value.builtin "ExceptionGroup.__weakref__", Value.none]) #[]),
  (167, Obj.mk (Value.type "list") none (Data.seq #[Value.str (Str.ofString "initial") 417, Value.str (Str.ofString "zero") 418, Value.str (Str.ofString "handshake") 419, Value.str (Str.ofString "retry") 420]) #[]),
  (181, methF 20 0 "RawPacket" 180 "quic.longheads" 407),
  (182, Obj.mk (Value.type "tuple") none (Data.seq #[Value.str (Str.ofString "dcid") 445, Value.str (Str.ofString "end") 446, Value.str (Str.ofString "first") 447, Value.str (Str.ofString "kind") 448, Value.str (Str.ofString "number_at") 449, Value.str (Str.ofString "scid") 450, Value.str (Str.ofString "start") 451, Value.str (Str.ofString "tag") 452, Value.str (Str.ofString "token") 453, Value.str (Str.ofString "version") 454, Value.str (Str.ofString "versions") 455]) #[]),
  (183, Obj.mk (Value.type "dict") none (Data.dict #[DictEntry.mk (PyData.keyHash P (Str.ofString "__module__")) (Value.str (Str.ofString "__module__") 429) (Value.str (Str.ofString "quic.longheads") 407), DictEntry.mk (PyData.keyHash P (Str.ofString "__firstlineno__")) (Value.str (Str.ofString "__firstlineno__") 433) (Value.int 87 432), DictEntry.mk (PyData.keyHash P (Str.ofString "__init__")) (Value.str (Str.ofString "__init__") 444) (Value.ref 181), DictEntry.mk (PyData.keyHash P (Str.ofString "__static_attributes__")) (Value.str (Str.ofString "__static_attributes__") 456) (Value.ref 182), DictEntry.mk (PyData.keyHash P (Str.ofString "__dict__")) (Value.str (Str.ofString "__dict__") 458) (Value.ref 185), DictEntry.mk (PyData.keyHash P (Str.ofString "__weakref__")) (Value.str (Str.ofString "__weakref__") 460) (Value.ref 186), DictEntry.mk (PyData.keyHash P (Str.ofString "__doc__")) (Value.str (Str.ofString "__doc__") 461) Value.none] 4) #[]),
  (184, Obj.mk (Value.type "type") none (Data.cls (ClassData.mk (Str.ofString "RawPacket") [Value.type "object"] [Value.ref 184, Value.type "object"] 183 (Str.ofString "RawPacket") true [] [] false none false)) #[none, none, some (Value.str (Str.ofString "RawPacket") 422), some (Value.str (Str.ofString "RawPacket") 430), some (Value.builtin "object.__new__"), some (Value.bool true)]),
  (185, Obj.mk (Value.type "getset_descriptor") none (Data.fields #[Value.str (Str.ofString "__dict__") 457, Value.ref 184, Value.builtin "function.__dict__", Value.builtin "function.__dict__#set"]) #[]),
  (186, Obj.mk (Value.type "getset_descriptor") none (Data.fields #[Value.str (Str.ofString "__weakref__") 459, Value.ref 184, Value.builtin "ExceptionGroup.__weakref__", Value.none]) #[]),
  (195, topF 21 194 "quic.longheads" 407),
  (202, topF 22 201 "quic.longheads" 407),
  (209, topF 23 208 "quic.longheads" 407),
  (214, topF 24 213 "quic.longheads" 407),
  (221, topF 25 220 "quic.longheads" 407),
  (228, topF 26 227 "quic.longheads" 407),
  (235, topF 27 234 "quic.longheads" 407),
  (242, topF 28 241 "quic.longheads" 407),
  (249, topF 29 248 "quic.longheads" 407),
  (256, topF 30 255 "quic.longheads" 407),
  (263, topF 31 262 "quic.longheads" 407),
  (270, topF 32 269 "quic.longheads" 407),
  (277, topF 33 276 "quic.longheads" 407),
  (284, topF 41 283 "quic.seal" 601),
  (291, topF 42 290 "quic.seal" 601),
  (298, topF 43 297 "quic.seal" 601),
  (305, topF 44 304 "quic.seal" 601),
  (312, topF 45 311 "quic.seal" 601),
  (319, topF 46 318 "quic.seal" 601),
  (324, topF 47 323 "quic.seal" 601),
  (331, topF 48 330 "quic.seal" 601),
  (338, topF 49 337 "quic.seal" 601),
  (345, topF 50 344 "quic.seal" 601),
  (352, topF 53 351 "quic.retries" 718),
  (359, topF 54 358 "quic.retries" 718),
  (366, topF 55 365 "quic.retries" 718),
  (373, topF 56 372 "quic.retries" 718),
  (380, topF 57 379 "quic.retries" 718),
  (387, topF 58 386 "quic.retries" 718),
  (394, topF 59 393 "quic.retries" 718),
  (401, topF 60 400 "quic.retries" 718),
  (408, topF 63 407 "quic.pnum" 820),
  (415, topF 64 414 "quic.pnum" 820),
  (422, topF 66 421 "quic.shorthead" 843),
  (429, topF 67 428 "quic.shorthead" 843),
  (436, topF 68 435 "quic.shorthead" 843),
  (443, topF 69 442 "quic.shorthead" 843),
  (450, topF 70 449 "quic.shorthead" 843),
  (457, topF 72 456 "law_pb0530_01" 893),
  (464, topF 73 463 "law_pb0530_01" 893),
  (471, topF 74 470 "law_pb0530_01" 893),
  (476, topF 75 475 "law_pb0530_01" 893),
  (483, topF 76 482 "law_pb0530_01" 893),
  (490, topF 77 489 "law_pb0530_01" 893),
  (495, topF 78 494 "law_pb0530_01" 893)]
noncomputable def codeQual (h : Heap) (c : Addr) : Option Str := match h.get? c with
  | some ⟨_, _, .fields vs, _⟩ => (match vs[1]? with
    | some (Value.str x _) => some x
    | _ => none)
  | _ => none
/-- address of a function's code object, its qualified name -/
noncomputable def codesOf (k : Frag) : List (Addr × Str) := k.filterMap fun p => match p.2.data with
  | .func fd => (match fd.code with | .ref c => some (c, fd.qualname) | _ => none)
  | _ => none
/- the run of the top, in trees -/
noncomputable def runT (tb : String → Option Builtin) (p : Program) (w : World) (n₀ : Nat) (ann : Option Value) : Nat → SharedT → Thread → Option SharedT
  | 0, _, _ => none
  | n + 1, s, t => match through t with
    | true => some s
    | false => match stepOk n₀ ann t with
      | false => none
      | true => match stepT (denote tb) p w s t with
        | some (s', t') => runT tb p w n₀ ann n s' t'
        | none => none
theorem runT_of {tb : String → Option Builtin} {p : Program} {w : World} {n₀ : Nat} {ann : Option Value} : ∀ {n : Nat} {s r : SharedT} {t : Thread}, runT tb p w n₀ ann n s t = some r → topRun tb p w n₀ ann n s.abs t = some r.abs
  | 0, _, _, _, h => by cases h
  | n + 1, s, r, t, h => by
    unfold runT at h
    unfold topRun
    cases ht : through t with
    | true => rw [ht] at h; cases h; rfl
    | false =>
      rw [ht] at h
      cases hk : stepOk n₀ ann t with
      | false => rw [hk] at h; cases h
      | true =>
        rw [hk] at h
        cases hs : stepT (denote tb) p w s t with
        | none => rw [hs] at h; cases h
        | some x => obtain ⟨s₂, t₂⟩ := x; rw [hs] at h; rw [stepT_spec hs]; exact runT_of h
/-- the same by the library's quick twins -/
noncomputable def runQ (p : Program) (w : World) (n₀ : Nat) (ann : Option Value) : Nat → SharedT → Thread → Option SharedT
  | 0, _, _ => none
  | n + 1, s, t => match through t with
    | true => some s
    | false => match PySem.W.Fast.tw6613529449190102663 n₀ ann t with
      | false => none
      | true => match PySem.W.Fast.tw10156331382660048174 (PySem.W.Fast.tw11892475500146522536 PySem.W.Fast.tw14364793385576792824) p w s t with
        | some (s', t') => runQ p w n₀ ann n s' t'
        | none => none
theorem runQ_eq {p : Program} {w : World} {n₀ : Nat} {ann : Option Value} : ∀ (n : Nat) (s : SharedT) (t : Thread), runT treeTable p w n₀ ann n s t = runQ p w n₀ ann n s t
  | 0, _, _ => rfl
  | n + 1, s, t => by
    have e1 : stepOk n₀ ann t = PySem.W.Fast.tw6613529449190102663 n₀ ann t := by rw [PySem.W.Fast.te6613529449190102663]
    have e2 : stepT (denote treeTable) p w s t = PySem.W.Fast.tw10156331382660048174 (PySem.W.Fast.tw11892475500146522536 PySem.W.Fast.tw14364793385576792824) p w s t := by
      rw [PySem.W.Fast.te10156331382660048174, PySem.W.Fast.te11892475500146522536, PySem.W.Fast.te14364793385576792824]
    unfold runT runQ
    rw [e1, e2]
    cases through t with
    | true => rfl
    | false =>
      dsimp only
      cases PySem.W.Fast.tw6613529449190102663 n₀ ann t with
      | false => rfl
      | true =>
        dsimp only
        cases PySem.W.Fast.tw10156331382660048174 (PySem.W.Fast.tw11892475500146522536 PySem.W.Fast.tw14364793385576792824) p w s t with
        | none => rfl
        | some x => exact runQ_eq n _ _
noncomputable def bootT (P : Params) : BT :=
  .node (boot_o_0 P)
    (.node (boot_o_1 P) (.node (boot_o_3 P) (.node (boot_o_7 P) .nil .nil) .nil) (.node (boot_o_5 P) (.node (boot_o_9 P) .nil .nil) .nil))
    (.node (boot_o_2 P) (.node (boot_o_4 P) (.node (boot_o_8 P) .nil .nil) .nil) (.node (boot_o_6 P) (.node (boot_o_10 P) .nil .nil) .nil))
theorem bootT_abs (P : Params) : absHeap (bootT P) 11 {} = boot_heap P := rfl
noncomputable def s0T (w : World) (os : OsState) : SharedT := ⟨bootT w.params, 11, {}, #[], boot_drawn, boot_toks, os⟩
noncomputable def q : Program := view pw [78]
noncomputable def loose : List Str := (pw.main.body.take 78).foldl boundBehind []
noncomputable abbrev Xt (s : Shared) : Bool := xlAt q [] s && recOk (RowW.records PySem.Challenge.rw_pb0530_01.row.toRowW) s
noncomputable def kAddrs : List Addr := [3, 75, 82, 89, 96, 103, 110, 124, 131, 138, 145, 152, 159, 160, 161, 162, 163, 164, 167, 181, 182, 183, 184, 185, 186, 195, 202, 209, 214, 221, 228, 235, 242, 249, 256, 263, 270, 277, 284, 291, 298, 305, 312, 319, 324, 331, 338, 345, 352, 359, 366, 373, 380, 387, 394, 401, 408, 415, 422, 429, 436, 443, 450, 457, 464, 471, 476, 483, 490, 495]
noncomputable def kCodes : List Addr := [81, 88, 95, 102, 109, 123, 130, 137, 144, 151, 158, 180, 194, 201, 208, 213, 220, 227, 234, 241, 248, 255, 262, 269, 276, 283, 290, 297, 304, 311, 318, 323, 330, 337, 344, 351, 358, 365, 372, 379, 386, 393, 400, 407, 414, 421, 428, 435, 442, 449, 456, 463, 470, 475, 482, 489, 494]
theorem kAddrs_eq (P : Params) : kAddrs = (K P).map (·.1) := rfl
theorem kCodes_eq (P : Params) : kCodes = (codesOf (K P)).map (·.1) := by kernel_rfl
noncomputable def hk : Hook where
  α := List (Option Obj) × List (Option Str)
  obs s := (kAddrs.map s.heap.get?, kCodes.map (codeQual s.heap))
  val w := ((K w.params).map fun p => some p.2, (codesOf (K w.params)).map fun p => some p.2)
  says w h := (K w.params).In h ∧ ∀ p ∈ codesOf (K w.params), codeQual h p.1 = some p.2
  of w s e := by
    obtain ⟨e1, e2⟩ := Prod.mk.inj e
    refine ⟨Frag.in_of (kAddrs_eq _) e1, fun p hp => ?_⟩
    rw [kCodes_eq w.params, List.map_map] at e2
    exact List.map_inj_left.mp e2 p hp
  keeps w h h' x k := by
    refine ⟨x.1.keeps k, fun p hp => ?_⟩
    have := x.2 p hp
    unfold codeQual at this ⊢
    cases e : h.get? p.1 with
    | none => rw [e] at this; cases this
    | some o => rw [k _ _ e]; rw [e] at this; exact this
noncomputable def Look (w : World) (s : Shared) :=
  (staticsOk (importedModules pw.main.body) (boot_heap w.params) s.heap && namesBound pw s.heap && gensDone s && laidKept (boot_heap w.params) s.heap,
   openSeen q loose (importedModules pw.main.body) Xt true s, hk.obs s)
theorem top_check (w : World) : (fun os => (runQ pw w 11 (some (.ref 6)) 3300 (s0T w os) (topStub pw)).map fun s => Look w s.abs) = fun _ => some (true, openGood q loose, hk.val w) := by
  kernel_rfl
theorem body_none : pw.main.body.takeWhile opensTheText = [] := by kernel_rfl
theorem opening_eq : opening pw = plainProg pw.main.scope.names := by
  unfold opening
  rw [body_none]
  kernel_rfl
theorem fence_eq (s : Shared) : fenceModules? pw s = some s := by kernel_rfl
theorem boot_seen (w : World) : ((boot_heap w.params).isNs mainGlobals && (#[] : Array GenState).size == 0, (boot_heap w.params).objs.size, (boot_heap w.params).nsMap mainGlobals "__annotations__") = (true, 11, some (Value.ref 6)) := by kernel_rfl
theorem leftO_of_run {p q : Program} {loose : List Str} {Xt : Shared → Bool} {α : Type} {Yf : Shared → α} {Ya : World → α} {N : Nat} {g0 : Bool} {H₀ : Params → Heap} {gs₀ : Array GenState} {d₀ : Drawn} {k₀ m₀ : Nat} {ann : Option Value}
    (open_ : ∀ w : World, (fencedOpening treeTable p w N).map (fun s => (s.heap, s.gens, s.drawn, s.toks)) = some (H₀ w.params, gs₀, d₀, k₀))
    (size : ∀ w : World, ((H₀ w.params).isNs mainGlobals && gs₀.size == 0, (H₀ w.params).objs.size, (H₀ w.params).nsMap mainGlobals "__annotations__") = (true, m₀, ann))
    (run : ∀ (w : World) (os : OsState), ∃ r, topRun treeTable p w m₀ ann N ⟨H₀ w.params, gs₀, d₀, k₀, os⟩ (topStub p) = some r ∧
      (staticsOk (importedModules p.main.body) (H₀ w.params) r.heap && namesBound p r.heap && gensDone r && laidKept (H₀ w.params) r.heap) = true ∧ openSeen q loose (importedModules p.main.body) Xt g0 r = openGood q loose ∧ Yf r = Ya w) :
    LeftO p q loose Xt Yf Ya N g0 := fun w => by
  obtain ⟨⟨h, gs, d, k, os⟩, e, e'⟩ := Option.map_eq_some_iff.mp (open_ w)
  obtain ⟨rfl, rfl, rfl, rfl⟩ : h = H₀ w.params ∧ gs = gs₀ ∧ d = d₀ ∧ k = k₀ := by simpa using e'
  obtain ⟨z1, z2, z3⟩ : _ ∧ _ ∧ _ := by simpa only [Prod.mk.injEq] using size w
  obtain ⟨r, hr, l1, l2, l3⟩ := run w os
  have t : topFrom treeTable p w N ⟨H₀ w.params, gs, d, k, os⟩ = some r := by
    unfold topFrom
    dsimp only
    rw [z1, z2, z3, hr]
    show (match staticsOk (importedModules p.main.body) (H₀ w.params) r.heap && namesBound p r.heap && gensDone r && laidKept (H₀ w.params) r.heap with | true => some r | false => none) = _
    rw [l1]
  unfold openEnds
  rw [e]
  show (topFrom treeTable p w N _).map _ = _
  rw [t]
  exact congrArg some (Prod.ext l2 l3)
theorem run_seen (w : World) (os : OsState) : ∃ r, topRun treeTable pw w 11 (some (.ref 6)) 3300 ⟨boot_heap w.params, #[], boot_drawn, boot_toks, os⟩ (topStub pw) = some r ∧
      (staticsOk (importedModules pw.main.body) (boot_heap w.params) r.heap && namesBound pw r.heap && gensDone r && laidKept (boot_heap w.params) r.heap) = true ∧ openSeen q loose (importedModules pw.main.body) Xt true r = openGood q loose ∧ hk.obs r = hk.val w := by
  obtain ⟨s₁, r, l⟩ := Option.map_eq_some_iff.mp (congrFun (top_check w) os)
  exact ⟨s₁.abs, runT_of ((runQ_eq _ _ _).trans r), congrArg Prod.fst l, congrArg (fun x => x.2.1) l, congrArg (fun x => x.2.2) l⟩
theorem left : LeftO pw q loose Xt hk.obs hk.val 3300 := leftO_of_run (boot_open opening_eq rfl fence_eq) boot_seen run_seen
noncomputable def lawSt : Stmt := (pw.main.body[78]?).getD (.Pass default)
noncomputable def lawDef : DefRec := match lawSt with
  | .FunctionDef name args body _ _ _ sc _ _ pos => ⟨name, args, body, sc, pos⟩
  | _ => ⟨default, default, [], default, default⟩
theorem law_def : defOf q PySem.Challenge.rw_pb0530_01.row.name = some (lawDef, []) := by kernel_rfl
theorem law_thedef : pw.theDef PySem.Challenge.rw_pb0530_01.row.name = some (lawDef.params, lawDef.body, lawDef.scope) := by kernel_rfl
theorem law_kw : kwWritten? lawDef.params.kwonlyargs lawDef.params.kw_defaults = some [] := by kernel_rfl
theorem law_said' : PySem.W.Fast.tw9446332074065402090 PySem.Challenge.rw_pb0530_01 = true := by kernel_rfl
theorem law_said : PySem.Challenge.rw_pb0530_01.wellSaid = true := by rw [PySem.W.Fast.te9446332074065402090]; exact law_said'
theorem law_ok : (chainsOk q && opensWell pw && (frees PySem.Challenge.rw_pb0530_01.row.toRowW && PySem.Challenge.rw_pb0530_01.row.within.isEmpty)) = true := by kernel_rfl
theorem law_bare : pw.bare := ⟨rfl, rfl, rfl, rfl, rfl, by decide +kernel⟩
theorem law_promised : PySem.Challenge.rw_pb0530_01.row.toRowW.promised := ⟨[.list []], by decide +kernel, by decide +kernel⟩
theorem holds_of (call : WalkO q loose (XL q []) hk.says PySem.Challenge.rw_pb0530_01.row.toRowW lawDef [] fun f vs => PySem.call f vs) : PySem.Challenge.rw_pb0530_01.Holds :=
  holds_law law_said fun said => holds_open (q := q) (loose := loose) (Xt := Xt) (XP := XL q []) (Yf := hk.obs) (Ya := hk.val) (YP := hk.says) (N := 3300) left hk.of hk.keeps
    (fun s e => xl_of s (Bool.and_eq_true_iff.mp e).1) XL.keeps law_def law_thedef law_kw (fun s e => recFacts_of (Bool.and_eq_true_iff.mp e).2) rfl said law_ok law_bare law_promised call
end Mine
end
section
set_option backward.match.sparseCases false
namespace Mine
open PySem
theorem and2 {a b : Bool} {p : Prop} (h : (a && b) = true) (k : a = true → b = true → p) : p := k (Bool.and_eq_true_iff.mp h).1 (Bool.and_eq_true_iff.mp h).2
theorem and3 {a0 a1 a2 : Bool} {p : Prop} (h : (a0 && (a1 && a2)) = true) (k : a0 = true → a1 = true → a2 = true → p) : p := and2 h fun x y => and2 y (k x)
theorem and4 {a0 a1 a2 a3 : Bool} {p : Prop} (h : (a0 && (a1 && (a2 && a3))) = true) (k : a0 = true → a1 = true → a2 = true → a3 = true → p) : p := and2 h fun x y => and3 y (k x)
theorem and5 {a0 a1 a2 a3 a4 : Bool} {p : Prop} (h : (a0 && (a1 && (a2 && (a3 && a4)))) = true) (k : a0 = true → a1 = true → a2 = true → a3 = true → a4 = true → p) : p := and2 h fun x y => and4 y (k x)
theorem and6 {a0 a1 a2 a3 a4 a5 : Bool} {p : Prop} (h : (a0 && (a1 && (a2 && (a3 && (a4 && a5))))) = true) (k : a0 = true → a1 = true → a2 = true → a3 = true → a4 = true → a5 = true → p) : p := and2 h fun x y => and5 y (k x)
theorem and7 {a0 a1 a2 a3 a4 a5 a6 : Bool} {p : Prop} (h : (a0 && (a1 && (a2 && (a3 && (a4 && (a5 && a6)))))) = true) (k : a0 = true → a1 = true → a2 = true → a3 = true → a4 = true → a5 = true → a6 = true → p) : p := and2 h fun x y => and6 y (k x)
theorem and8 {a0 a1 a2 a3 a4 a5 a6 a7 : Bool} {p : Prop} (h : (a0 && (a1 && (a2 && (a3 && (a4 && (a5 && (a6 && a7))))))) = true) (k : a0 = true → a1 = true → a2 = true → a3 = true → a4 = true → a5 = true → a6 = true → a7 = true → p) : p := and2 h fun x y => and7 y (k x)
theorem and9 {a0 a1 a2 a3 a4 a5 a6 a7 a8 : Bool} {p : Prop} (h : (a0 && (a1 && (a2 && (a3 && (a4 && (a5 && (a6 && (a7 && a8)))))))) = true) (k : a0 = true → a1 = true → a2 = true → a3 = true → a4 = true → a5 = true → a6 = true → a7 = true → a8 = true → p) : p := and2 h fun x y => and8 y (k x)
theorem and10 {a0 a1 a2 a3 a4 a5 a6 a7 a8 a9 : Bool} {p : Prop} (h : (a0 && (a1 && (a2 && (a3 && (a4 && (a5 && (a6 && (a7 && (a8 && a9))))))))) = true) (k : a0 = true → a1 = true → a2 = true → a3 = true → a4 = true → a5 = true → a6 = true → a7 = true → a8 = true → a9 = true → p) : p := and2 h fun x y => and9 y (k x)
theorem and11 {a0 a1 a2 a3 a4 a5 a6 a7 a8 a9 a10 : Bool} {p : Prop} (h : (a0 && (a1 && (a2 && (a3 && (a4 && (a5 && (a6 && (a7 && (a8 && (a9 && a10)))))))))) = true) (k : a0 = true → a1 = true → a2 = true → a3 = true → a4 = true → a5 = true → a6 = true → a7 = true → a8 = true → a9 = true → a10 = true → p) : p := and2 h fun x y => and10 y (k x)
theorem and12 {a0 a1 a2 a3 a4 a5 a6 a7 a8 a9 a10 a11 : Bool} {p : Prop} (h : (a0 && (a1 && (a2 && (a3 && (a4 && (a5 && (a6 && (a7 && (a8 && (a9 && (a10 && a11))))))))))) = true) (k : a0 = true → a1 = true → a2 = true → a3 = true → a4 = true → a5 = true → a6 = true → a7 = true → a8 = true → a9 = true → a10 = true → a11 = true → p) : p := and2 h fun x y => and11 y (k x)
theorem and13 {a0 a1 a2 a3 a4 a5 a6 a7 a8 a9 a10 a11 a12 : Bool} {p : Prop} (h : (a0 && (a1 && (a2 && (a3 && (a4 && (a5 && (a6 && (a7 && (a8 && (a9 && (a10 && (a11 && a12)))))))))))) = true) (k : a0 = true → a1 = true → a2 = true → a3 = true → a4 = true → a5 = true → a6 = true → a7 = true → a8 = true → a9 = true → a10 = true → a11 = true → a12 = true → p) : p := and2 h fun x y => and12 y (k x)
theorem iteB {c : Bool} {p q : Prop} (h1 : c = true → p) (h2 : c = false → q) : (match c with | true => p | false => q) := by
  cases c with
  | true => exact h1 rfl
  | false => exact h2 rfl
theorem hide {g : Prop} (k : ∀ p : Prop, (g → p) → p) : g := k g id
/- names: attributes, keys, texts -/
inductive N
  | data | at_ | kind | first | version | dcid | scid | token | tag | versions | start | number_at | end_
  | known | now | born | life | is_led | is_done
  | initial | zero | handshake | retry | negotiation | unknown | short | use | ignore | give_up
  deriving DecidableEq
noncomputable def N.s : N → Str
  | .data => "data" | .at_ => "at" | .kind => "kind" | .first => "first" | .version => "version" | .dcid => "dcid" | .scid => "scid" | .token => "token" | .tag => "tag"
  | .versions => "versions" | .start => "start" | .number_at => "number_at" | .end_ => "end" | .known => "known" | .now => "now" | .born => "born" | .life => "life"
  | .is_led => "is_led" | .is_done => "is_done" | .initial => "initial" | .zero => "zero" | .handshake => "handshake" | .retry => "retry" | .negotiation => "negotiation"
  | .unknown => "unknown" | .short => "short" | .use => "use" | .ignore => "ignore" | .give_up => "give up"
noncomputable def N.all : List N := [.data, .at_, .kind, .first, .version, .dcid, .scid, .token, .tag, .versions, .start, .number_at, .end_, .known, .now, .born, .life, .is_led, .is_done,
  .initial, .zero, .handshake, .retry, .negotiation, .unknown, .short, .use, .ignore, .give_up]
theorem N.mem_all (n : N) : n ∈ N.all := by cases n <;> decide
theorem N.nodup : (N.all.map N.s).Nodup := by decide +kernel
theorem nodup_inj {α β : Type} {f : α → β} : ∀ {l : List α}, (l.map f).Nodup → ∀ a ∈ l, ∀ b ∈ l, f a = f b → a = b
  | [], _, _, h, _, _, _ => nomatch h
  | x :: l, hn, a, ha, b, hb, e => by
    rw [List.map_cons, List.nodup_cons] at hn
    rcases List.mem_cons.mp ha with h1 | h1 <;> rcases List.mem_cons.mp hb with h2 | h2
    · exact h1.trans h2.symm
    · exact absurd (h1 ▸ e ▸ List.mem_map_of_mem h2) hn.1
    · exact absurd (h2 ▸ e.symm ▸ List.mem_map_of_mem h1) hn.1
    · exact nodup_inj hn.2 a h1 b h2 e
theorem N.s_inj {a b : N} (h : a.s = b.s) : a = b := nodup_inj N.nodup a a.mem_all b b.mem_all h
/- values and objects -/
inductive C | reader | raw deriving DecidableEq
inductive V
  | none | bool (b : Bool) | int (i : Int) | str (n : N) | bytes (b : List UInt8) | obj (k : Nat) | sizes | kinds
  deriving DecidableEq
inductive O
  | list (l : List V) | tup (l : List V) | dict (kv : List (N × V)) | inst (c : C) (fs : List (N × V)) | barr (b : List UInt8) | ro (o : Obj) (l : List Int)
noncomputable def getN (n : N) : List (N × V) → Option V
  | [] => .none
  | p :: r => if p.1 = n then some p.2 else getN n r
noncomputable def putN' (n : N) (v : V) (kv : List (N × V)) : List (N × V) :=
  if kv.any (fun p => decide (p.1 = n)) then kv.map (fun p => if p.1 = n then (p.1, v) else p) else kv ++ [(n, v)]
noncomputable def putF (n : N) (v : V) : List (N × V) → List (N × V)
  | [] => [(n, v)]
  | p :: r => if p.1 = n then (p.1, v) :: r else p :: putF n v r
set_option genSizeOfSpec false
set_option genCtorIdx false
set_option genInjectivity false
/- the small language -/
mutual
inductive E
  | none | bool (b : Bool) | int (i : Int) | str (n : N) | bytes (b : List UInt8)
  | loc (i : Nat) | cst (n : Str) (v : V)
  | bin (op : Operator) (a b : E) | neg (a : E) | not (a : E) | and (es : Es) | or (es : Es)
  | cmp (op : CmpOp) (a b : E) | cmp2 (o1 o2 : CmpOp) (a b c : E) | ite (t a b : E)
  | tup (es : Es) | lst (es : Es) | dct (ks : List N) (es : Es)
  | call (f : Nat) (es : Es) | mk (c : C) (es : Es) | len (a : E) | mkBytes (a : E) | mkBarr (a : E) | absI (a : E) | toInt (a : E)
  | meth (o : E) (f : Nat) (es : Es) | append (o a : E) | pop0 (o : E) | index (o a : E) | update (o a : E) | join (a b : E)
  | attr (o : E) (n : N) | idx (o i : E) | slcF (o lo : E) | slcT (o hi : E) | slc (o lo hi : E)
  | comp (fr : List Nat) (elt it : E) | compIf (fr : List Nat) (elt it test : E) | compEn (fr : List Nat) (elt it : E)
inductive Es
  | nil | cons (e : E) (r : Es)
end
set_option genCtorIdx true
inductive T0
  | loc (i : Nat) | attr (o : E) (n : N) | sub (o k : E)
inductive T
  | one (t : T0) | tup (ts : List T0) | rev (ts : List T0)
inductive It
  | e (e : E) | range1 (e : E) | range2 (a b : E) | range3 (a b : E)
set_option genCtorIdx false
mutual
inductive S
  | expr (e : E) | asg (t : T) (e : E) | aug (o : E) (n : N) (op : Operator) (e : E) | ite (t : E) (a b : Ss) | while (t : E) (b : Ss) | for (x : Nat) (it : It) (b : Ss)
  | ret (e : E) | brk | try_ (b : Ss) | raise
inductive Ss
  | nil | cons (s : S) (r : Ss)
end
set_option genCtorIdx true
/- ==== what the small language asks ==== -/
noncomputable abbrev L := List (Option V)
noncomputable abbrev H := List O
noncomputable abbrev K1 := V → H → Prop
noncomputable def clip (n : Nat) (i : Int) : Nat := if i < 0 then (i + n).toNat else min i.toNat n
noncomputable def cut {α : Type} (b : List α) (lo hi : Option Int) : List α :=
  (b.drop (lo.elim 0 (clip b.length))).take (hi.elim b.length (clip b.length) - lo.elim 0 (clip b.length))
noncomputable def sizesL : List V := [.int 1, .int 2, .int 4, .int 8]
noncomputable def kindsL : List V := [.str .initial, .str .zero, .str .handshake, .str .retry]
noncomputable def wpBin (op : Operator) (x y : V) (h : H) (Q : K1) : Prop := match op with
  | .Add => match x with
    | .int a => match y with | .int b => Q (.int (a + b)) h | _ => False
    | .bytes a => match y with | .bytes b => a.length + b.length ≤ 16777216 ∧ Q (.bytes (a ++ b)) h | _ => False
    | .obj i => match y with
      | .obj j => (match h[i]? with
        | some (.list a) => (match h[j]? with | some (.list b) => a.length + b.length ≤ 1000 ∧ Q (.obj h.length) (h ++ [.list (a ++ b)]) | _ => False)
        | _ => False)
      | _ => False
    | _ => False
  | .Sub => match x with | .int a => (match y with | .int b => Q (.int (a - b)) h | _ => False) | _ => False
  | .Mult => match x with | .int a => (match y with | .int b => (a.natAbs < 2 ^ 64 ∨ b.natAbs < 2 ^ 64) ∧ Q (.int (a * b)) h | _ => False) | _ => False
  | .FloorDiv => match x with | .int a => (match y with | .int b => (0 < b ∧ b < 1000000000) ∧ Q (.int (a / b)) h | _ => False) | _ => False
  | .Mod => match x with | .int a => (match y with | .int b => 0 < b ∧ Q (.int (a % b)) h | _ => False) | _ => False
  | .LShift => match x with | .int a => (match y with | .int b => (0 ≤ b ∧ b ≤ 1000 ∧ a.natAbs < 2 ^ 64) ∧ Q (.int (a * 2 ^ b.toNat)) h | _ => False) | _ => False
  | .RShift => match x with | .int a => (match y with | .int b => 0 ≤ b ∧ Q (.int (a / 2 ^ b.toNat)) h | _ => False) | _ => False
  | .BitAnd => match x with | .int a => (match y with | .int b => (0 ≤ a ∧ 0 ≤ b) ∧ Q (.int ((a.toNat &&& b.toNat : Nat) : Int)) h | _ => False) | _ => False
  | .BitOr => match x with | .int a => (match y with | .int b => (0 ≤ a ∧ 0 ≤ b) ∧ Q (.int ((a.toNat ||| b.toNat : Nat) : Int)) h | _ => False) | _ => False
  | .BitXor => match x with | .int a => (match y with | .int b => (0 ≤ a ∧ 0 ≤ b) ∧ Q (.int ((a.toNat ^^^ b.toNat : Nat) : Int)) h | _ => False) | _ => False
  | _ => False
/-- equality of two plain values of one kind -/
noncomputable def eqV (x y : V) : Option Bool := match x with
  | .int a => match y with | .int b => some (decide (a = b)) | _ => .none
  | .bytes a => match y with | .bytes b => some (decide (a = b)) | _ => .none
  | .str a => match y with | .str b => some (decide (a = b)) | _ => .none
  | .bool a => match y with | .bool b => some (decide (a = b)) | _ => .none
  | .none => match y with | .none => some true | _ => .none
  | _ => .none
noncomputable def eqVs : List V → List V → Option Bool
  | [], [] => some true
  | x :: xs, y :: ys => match eqV x y with
    | some b => (match eqVs xs ys with | some c => some (b && c) | .none => .none)
    | .none => .none
  | _, _ => .none
noncomputable def eqO (h : H) (x y : V) : Option Bool := match x with
  | .obj i => match y with
    | .obj j => (match h[i]? with
      | some (.list a) => (match h[j]? with
        | some (.list b) => (match b with | [] => some (decide (a.length = 0)) | _ => .none)
        | _ => .none)
      | some (.tup a) => (match h[j]? with | some (.tup b) => eqVs a b | _ => .none)
      | _ => .none)
    | _ => .none
  | _ => eqV x y
noncomputable def allInt : List V → Bool
  | [] => true
  | .int _ :: r => allInt r
  | _ :: _ => false
noncomputable def seqOf (h : H) : V → Option (List V)
  | .obj k => match h[k]? with
    | some (.list l) => some l
    | some (.tup l) => some l
    | _ => .none
  | .sizes => some sizesL
  | .kinds => some kindsL
  | _ => .none
noncomputable def inV (h : H) (x y : V) : Option Bool := match x with
  | .int a => (match seqOf h y with
    | some l => if allInt l then some (l.contains (.int a)) else .none
    | .none => .none)
  | _ => .none
noncomputable def cmpV (op : CmpOp) (h : H) (x y : V) : Option Bool := match op with
  | .Lt => match x with | .int a => (match y with | .int b => some (decide (a < b)) | _ => .none) | _ => .none
  | .LtE => match x with | .int a => (match y with | .int b => some (decide (a ≤ b)) | _ => .none) | _ => .none
  | .Gt => match x with | .int a => (match y with | .int b => some (decide (a > b)) | _ => .none) | _ => .none
  | .GtE => match x with | .int a => (match y with | .int b => some (decide (a ≥ b)) | _ => .none) | _ => .none
  | .Eq => eqO h x y
  | .NotEq => (eqO h x y).map (!·)
  | .Is => match y with | .none => some (decide (x = .none)) | _ => .none
  | .IsNot => match y with | .none => some (!decide (x = .none)) | _ => .none
  | .In => inV h x y
  | .NotIn => (inV h x y).map (!·)
noncomputable def wpIdx (o i : V) (h : H) (Q : K1) : Prop := match o with
  | .bytes b => match i with
    | .int i => (-(b.length : Int) ≤ i ∧ i < b.length) ∧ Q (.int (b.getD (if i < 0 then i + b.length else i).toNat 0).toNat) h
    | _ => False
  | .obj k => match h[k]? with
    | some (.list l) => (match i with | .int i => (0 ≤ i ∧ i < l.length ∧ i < 1000000) ∧ Q (l.getD i.toNat .none) h | _ => False)
    | some (.tup l) => (match i with | .int i => (-(l.length : Int) ≤ i ∧ i < l.length ∧ -1000000 < i ∧ i < 1000000) ∧ Q (l.getD (if i < 0 then i + l.length else i).toNat .none) h | _ => False)
    | some (.dict kv) => (match i with | .str n => (match getN n kv with | some v => Q v h | .none => False) | _ => False)
    | _ => False
  | .sizes => match i with | .int i => (0 ≤ i ∧ i < 4) ∧ Q (sizesL.getD i.toNat .none) h | _ => False
  | .kinds => match i with | .int i => (0 ≤ i ∧ i < 4) ∧ Q (kindsL.getD i.toNat .none) h | _ => False
  | _ => False
noncomputable def wpSlc (o : V) (lo hi : Option Int) (h : H) (Q : K1) : Prop := match o with
  | .bytes b => Q (.bytes (cut b lo hi)) h
  | .obj k => match h[k]? with
    | some (.ro _ l) => (match lo with
      | .none => (match hi with | some i => (0 ≤ i ∧ l.length ≤ 1000) ∧ Q (.obj h.length) (h ++ [.list ((l.take i.toNat).map .int)]) | .none => False)
      | _ => False)
    | _ => False
  | _ => False
noncomputable def intsOf : List V → Option (List Int)
  | [] => some []
  | .int i :: r => (intsOf r).map (i :: ·)
  | _ :: _ => .none
noncomputable def octetsOf : List V → Option (List UInt8)
  | [] => some []
  | .int i :: r => if 0 ≤ i ∧ i < 256 then (octetsOf r).map (i.toNat.toUInt8 :: ·) else .none
  | _ :: _ => .none
noncomputable def bytesOf : List V → Option (List (List UInt8))
  | [] => some []
  | .bytes b :: r => (bytesOf r).map (b :: ·)
  | _ :: _ => .none
noncomputable def wpBytes (x : V) (h : H) (Q : K1) : Prop := match x with
  | .obj k => match h[k]? with
    | some (.list l) => (match octetsOf l with | some b => b.length ≤ 1000 ∧ Q (.bytes b) h | .none => False)
    | some (.barr b) => b.length ≤ 1000 ∧ Q (.bytes b) h
    | _ => False
  | _ => False
noncomputable def wpLen (x : V) (h : H) (Q : K1) : Prop := match x with
  | .bytes b => Q (.int b.length) h
  | .obj k => match h[k]? with
    | some (.list l) => l.length ≤ 1000000 ∧ Q (.int l.length) h
    | some (.tup l) => l.length ≤ 1000000 ∧ Q (.int l.length) h
    | _ => False
  | _ => False
noncomputable def posOf (x : V) : List V → Option Nat
  | [] => .none
  | y :: r => if x = y then some 0 else (posOf x r).map (· + 1)
noncomputable def wpIndex (o a : V) (h : H) (Q : K1) : Prop := match o with
  | .sizes => match a with | .int i => (match posOf (.int i) sizesL with | some k => Q (.int k) h | .none => False) | _ => False
  | .kinds => match a with | .str n => (match posOf (.str n) kindsL with | some k => Q (.int k) h | .none => False) | _ => False
  | _ => False
noncomputable def putAll : List (N × V) → List (N × V) → List (N × V)
  | kv, [] => kv
  | kv, p :: r => putAll (putN' p.1 p.2 kv) r
noncomputable def wpSetItem (o i v : V) (h : H) (Q : H → Prop) : Prop := match o with
  | .obj k => match h[k]? with
    | some (.list l) => (match i with | .int i => (0 ≤ i ∧ i < l.length ∧ l.length ≤ 1000) ∧ Q (h.set k (.list (l.set i.toNat v))) | _ => False)
    | some (.dict kv) => (match i with | .str n => kv.length < 100 ∧ Q (h.set k (.dict (putN' n v kv))) | _ => False)
    | some (.barr b) => (match i with
      | .int i => (match v with | .int x => (0 ≤ i ∧ i < b.length ∧ 0 ≤ x ∧ x < 256 ∧ b.length ≤ 1000) ∧ Q (h.set k (.barr (b.set i.toNat x.toNat.toUInt8))) | _ => False)
      | _ => False)
    | _ => False
  | _ => False
/-- the names that the text stores in instances -/
noncomputable def attrOk : C → N → Bool
  | .reader, n => [N.data, .at_].contains n
  | .raw, n => [N.kind, .first, .version, .dcid, .scid, .token, .tag, .versions, .start, .number_at, .end_].contains n
noncomputable def wpSetAttr (o : V) (n : N) (v : V) (h : H) (Q : H → Prop) : Prop := match o with
  | .obj k => match h[k]? with
    | some (.inst c fs) => (attrOk c n = true ∧ fs.length < 100) ∧ Q (h.set k (.inst c (putF n v fs)))
    | _ => False
  | _ => False
noncomputable def wpAttr (o : V) (n : N) (h : H) (Q : K1) : Prop := match o with
  | .obj k => match h[k]? with
    | some (.inst c fs) => (match getN n fs with | some v => attrOk c n = true ∧ Q v h | .none => False)
    | _ => False
  | _ => False
noncomputable def plainV : V → Bool
  | .int _ | .bytes _ => true
  | _ => false
/-- the method table: number of the text's function, its class, its name -/
noncomputable def methN : Nat → Option (C × Str)
  | 131 => some (.reader, "left")
  | 138 => some (.reader, "take")
  | 145 => some (.reader, "rest")
  | 152 => some (.reader, "whole")
  | 159 => some (.reader, "varint")
  | _ => .none
noncomputable def initOf : C → Nat
  | .reader => 124
  | .raw => 181
noncomputable def frees (fr : List Nat) (l : L) : L := fr.map fun i => (l[i]?).join
noncomputable def enumV : Nat → List V → List (V × V)
  | _, [] => []
  | i, v :: r => (.int i, v) :: enumV (i + 1) r
section
variable (Γ : Nat → List V → H → K1 → Prop)
mutual
noncomputable def wpE : E → L → H → K1 → Prop
  | .none, _, h, Q => Q .none h
  | .bool b, _, h, Q => Q (.bool b) h
  | .int i, _, h, Q => Q (.int i) h
  | .str n, _, h, Q => Q (.str n) h
  | .bytes b, _, h, Q => Q (.bytes b) h
  | .loc i, l, h, Q => match l[i]? with | some (some v) => Q v h | _ => False
  | .cst _ v, _, h, Q => Q v h
  | .bin op a b, l, h, Q => wpE a l h fun x h1 => wpE b l h1 fun y h2 => wpBin op x y h2 Q
  | .neg a, l, h, Q => wpE a l h fun x h1 => match x with | .int i => Q (.int (-i)) h1 | _ => False
  | .not a, l, h, Q => wpE a l h fun x h1 => match x with | .bool b => Q (.bool (!b)) h1 | _ => False
  | .and es, l, h, Q => wpAnd es l h Q
  | .or es, l, h, Q => wpOr es l h Q
  | .cmp op a b, l, h, Q => wpE a l h fun x h1 => wpE b l h1 fun y h2 => match cmpV op h2 x y with | some r => Q (.bool r) h2 | .none => False
  | .cmp2 o1 o2 a b c, l, h, Q => wpE a l h fun x h1 => wpE b l h1 fun y h2 => match cmpV o1 h2 x y with
    | some r => (match r with | true => wpE c l h2 fun z h3 => (match cmpV o2 h3 y z with | some r' => Q (.bool r') h3 | .none => False) | false => Q (.bool false) h2)
    | .none => False
  | .ite t a b, l, h, Q => wpE t l h fun x h1 => match x with
    | .bool c => (match c with | true => wpE a l h1 Q | false => wpE b l h1 Q)
    | _ => False
  | .tup es, l, h, Q => wpEs es l h fun vs h1 => Q (.obj h1.length) (h1 ++ [.tup vs])
  | .lst es, l, h, Q => wpEs es l h fun vs h1 => Q (.obj h1.length) (h1 ++ [.list vs])
  | .dct ks es, l, h, Q => wpEs es l h fun vs h1 => (ks.length = vs.length ∧ ks.Nodup) ∧ Q (.obj h1.length) (h1 ++ [.dict (ks.zip vs)])
  | .call f es, l, h, Q => wpEs es l h fun vs h1 => Γ f vs h1 Q
  | .mk c es, l, h, Q => wpEs es l h fun vs h1 => Γ (initOf c) (.obj h1.length :: vs) (h1 ++ [.inst c []]) fun r h2 => r = .none ∧ Q (.obj h1.length) h2
  | .len a, l, h, Q => wpE a l h fun x h1 => wpLen x h1 Q
  | .mkBytes a, l, h, Q => wpE a l h fun x h1 => wpBytes x h1 Q
  | .mkBarr a, l, h, Q => wpE a l h fun x h1 => match x with | .int i => (0 ≤ i ∧ i ≤ 1000) ∧ Q (.obj h1.length) (h1 ++ [.barr (List.replicate i.toNat 0)]) | _ => False
  | .absI a, l, h, Q => wpE a l h fun x h1 => match x with | .int i => Q (.int i.natAbs) h1 | _ => False
  | .toInt a, l, h, Q => wpE a l h fun x h1 => match x with | .int i => Q (.int i) h1 | _ => False
  | .meth o f es, l, h, Q => wpE o l h fun x h1 => match x with
    | .obj k => (match h1[k]? with
      | some (.inst c _) => (methN f).map (·.1) = some c ∧ wpEs es l h1 fun vs h2 => Γ f (x :: vs) h2 Q
      | _ => False)
    | _ => False
  | .append o a, l, h, Q => wpE o l h fun x h1 => match x with
    | .obj k => (match h1[k]? with
      | some (.list _) => wpE a l h1 fun y h2 => (match h2[k]? with | some (.list vs) => vs.length < 1000 ∧ Q .none (h2.set k (.list (vs ++ [y]))) | _ => False)
      | _ => False)
    | _ => False
  | .pop0 o, l, h, Q => wpE o l h fun x h1 => match x with
    | .obj k => (match h1[k]? with
      | some (.list vs) => (match vs with | v :: r => r.length < 1000 ∧ Q v (h1.set k (.list r)) | [] => False)
      | _ => False)
    | _ => False
  | .index o a, l, h, Q => wpE o l h fun x h1 => (x = .sizes ∨ x = .kinds) ∧ wpE a l h1 fun y h2 => wpIndex x y h2 Q
  | .update o a, l, h, Q => wpE o l h fun x h1 => match x with
    | .obj i => (match h1[i]? with
      | some (.dict _) => wpE a l h1 fun y h2 => (match y with
        | .obj j => (match h2[i]? with
          | some (.dict kv) => (match h2[j]? with
            | some (.dict kw) => (i ≠ j ∧ kv.length + kw.length < 100) ∧ Q .none (h2.set i (.dict (putAll kv kw)))
            | _ => False)
          | _ => False)
        | _ => False)
      | _ => False)
    | _ => False
  | .join a b, l, h, Q => wpE a l h fun x h1 => x = .bytes [] ∧ wpE b l h1 fun y h2 => match y with
    | .obj k => (match h2[k]? with
      | some (.list vs) => (match bytesOf vs with
        | some bs => (2 ≤ bs.length ∧ bs.flatten.length ≤ 1000000) ∧ Q (.bytes bs.flatten) h2
        | .none => False)
      | _ => False)
    | _ => False
  | .attr o n, l, h, Q => wpE o l h fun x h1 => wpAttr x n h1 Q
  | .idx o i, l, h, Q => wpE o l h fun x h1 => wpE i l h1 fun y h2 => wpIdx x y h2 Q
  | .slcF o lo, l, h, Q => wpE o l h fun x h1 => wpE lo l h1 fun a h2 => match a with | .int i => wpSlc x (some i) .none h2 Q | _ => False
  | .slcT o hi, l, h, Q => wpE o l h fun x h1 => wpE hi l h1 fun a h2 => match a with | .int i => wpSlc x .none (some i) h2 Q | _ => False
  | .slc o lo hi, l, h, Q => wpE o l h fun x h1 => wpE lo l h1 fun a h2 => wpE hi l h2 fun b h3 => match a with
    | .int i => (match b with | .int j => wpSlc x (some i) (some j) h3 Q | _ => False)
    | _ => False
  | .comp fr elt it, l, h, Q => wpE it l h fun x h1 => match x with
    | .obj k => (match h1[k]? with
      | some (.list vs) => ∃ f : V → V, (vs.length ≤ 1000 ∧ ∀ v ∈ vs, wpE elt (some v :: frees fr l) h1 fun y h2 => y = f v ∧ plainV y = true ∧ ∃ g, h2 = h1 ++ g) ∧
        Q (.obj h1.length) (h1 ++ [.list (vs.map f)])
      | _ => False)
    | _ => False
  | .compIf fr elt it test, l, h, Q => wpE it l h fun x h1 => match x with
    | .obj k => (match h1[k]? with
      | some (.list vs) => ∃ (f : V → V) (p : V → Bool), (vs.length ≤ 1000 ∧ ∀ v ∈ vs, (wpE test (some v :: frees fr l) h1 fun b h2 => b = .bool (p v) ∧ ∃ g, h2 = h1 ++ g) ∧
        (p v = true → wpE elt (some v :: frees fr l) h1 fun y h2 => y = f v ∧ plainV y = true ∧ ∃ g, h2 = h1 ++ g)) ∧
        Q (.obj h1.length) (h1 ++ [.list ((vs.filter p).map f)])
      | _ => False)
    | _ => False
  | .compEn fr elt it, l, h, Q => wpE it l h fun x h1 => match x with
    | .bytes b => ∃ f : Nat → V, (b.length ≤ 1000 ∧ ∀ (i : Nat) (v : UInt8), b[i]? = some v → wpE elt (some (.int i) :: some (.int v.toNat) :: frees fr l) h1 fun y h2 => y = f i ∧ plainV y = true ∧ ∃ g, h2 = h1 ++ g) ∧
        Q (.obj h1.length) (h1 ++ [.list ((List.range b.length).map f)])
    | _ => False
noncomputable def wpEs : Es → L → H → (List V → H → Prop) → Prop
  | .nil, _, h, Q => Q [] h
  | .cons e r, l, h, Q => wpE e l h fun v h1 => wpEs r l h1 fun vs h2 => Q (v :: vs) h2
noncomputable def wpAnd : Es → L → H → K1 → Prop
  | .nil, _, _, _ => False
  | .cons e r, l, h, Q => match r with
    | .nil => wpE e l h Q
    | .cons _ _ => wpE e l h fun v h1 => match v with
      | .bool b => (match b with | true => wpAnd r l h1 Q | false => Q (.bool false) h1)
      | _ => False
noncomputable def wpOr : Es → L → H → K1 → Prop
  | .nil, _, _, _ => False
  | .cons e r, l, h, Q => match r with
    | .nil => wpE e l h Q
    | .cons _ _ => wpE e l h fun v h1 => match v with
      | .bool b => (match b with | true => Q (.bool true) h1 | false => wpOr r l h1 Q)
      | _ => False
end
end
/- ==== statements ==== -/
inductive Fl
  | next | brk | ret (v : V)
noncomputable abbrev K2 := Fl → L → H → Prop
section
variable (Γ : Nat → List V → H → K1 → Prop)
noncomputable def wpT0 (t : T0) (v : V) (l : L) (h : H) (Q : L → H → Prop) : Prop := match t with
  | .loc i => match l[i]? with | some _ => Q (l.set i (some v)) h | .none => False
  | .attr o n => wpE Γ o l h fun x h1 => wpSetAttr x n v h1 fun h2 => Q l h2
  | .sub o k => wpE Γ o l h fun x h1 => wpE Γ k l h1 fun y h2 => wpSetItem x y v h2 fun h3 => Q l h3
theorem t0_loc {i : Nat} {v : V} {l : L} {h : H} {Q : L → H → Prop} (q : wpT0 Γ (.loc i) v l h Q) : Q (l.set i (some v)) h := by
  revert q
  show (match l[i]? with | some _ => _ | .none => False) → _
  cases l[i]? with
  | none => exact False.elim
  | some _ => exact id
noncomputable def wpT0s : List T0 → List V → L → H → (L → H → Prop) → Prop
  | [], [], l, h, Q => Q l h
  | t :: ts, v :: vs, l, h, Q => wpT0 Γ t v l h fun l1 h1 => wpT0s ts vs l1 h1 Q
  | _, _, _, _, _ => False
noncomputable def wpT (t : T) (v : V) (l : L) (h : H) (Q : L → H → Prop) : Prop := match t with
  | .one t => wpT0 Γ t v l h Q
  | .tup ts => match v with
    | .obj k => match h[k]? with
      | some (.tup vs) => vs.length = ts.length ∧ wpT0s Γ ts vs l h Q
      | _ => False
    | _ => False
  | .rev ts => match v with
    | .obj k => match h[k]? with
      | some (.tup vs) => vs.length = ts.length ∧ wpT0s Γ ts.reverse vs.reverse l h Q
      | _ => False
    | _ => False
noncomputable def rangeUp (a b : Int) : List V := (List.range (b - a).toNat).map fun (i : Nat) => .int (a + i)
noncomputable def rangeDown (a b : Int) : List V := (List.range (a - b).toNat).map fun (i : Nat) => .int (a - i)
/-- the items of a for, and what must stand as it stood behind each turn -/
noncomputable def wpIt (t : It) (l : L) (h : H) (Q : List V → (H → Prop) → H → Prop) : Prop := match t with
  | .e e => wpE Γ e l h fun x h1 => match x with
    | .bytes b => Q (b.map fun u => .int u.toNat) (fun _ => True) h1
    | .sizes => Q sizesL (fun _ => True) h1
    | .obj k => match h1[k]? with
      | some (.list vs) => Q vs (fun h' => h'[k]? = some (.list vs)) h1
      | some (.tup vs) => Q vs (fun h' => h'[k]? = some (.tup vs)) h1
      | _ => False
    | _ => False
  | .range1 e => wpE Γ e l h fun x h1 => match x with | .int b => (-1000 < b ∧ b < 1000) ∧ Q (rangeUp 0 b) (fun _ => True) h1 | _ => False
  | .range2 e f => wpE Γ e l h fun x h1 => wpE Γ f l h1 fun y h2 => match x with
    | .int a => (match y with | .int b => ((-1000 < a ∧ a < 1000) ∧ -1000 < b ∧ b < 1000) ∧ Q (rangeUp a b) (fun _ => True) h2 | _ => False)
    | _ => False
  | .range3 e f => wpE Γ e l h fun x h1 => wpE Γ f l h1 fun y h2 => match x with
    | .int a => (match y with | .int b => ((-1000 < a ∧ a < 1000) ∧ -1000 < b ∧ b < 1000) ∧ Q (rangeDown a b) (fun _ => True) h2 | _ => False)
    | _ => False
noncomputable def wpFor (B : L → H → K2 → Prop) (x : Nat) (ok : H → Prop) : List V → L → H → K2 → Prop
  | [], l, h, Q => Q .next l h
  | v :: vs, l, h, Q => x < l.length ∧ B (l.set x (some v)) h fun f l1 h1 => match f with
    | .next => ok h1 ∧ wpFor B x ok vs l1 h1 Q
    | .brk => Q .next l1 h1
    | .ret r => Q (.ret r) l1 h1
mutual
noncomputable def wpS : S → L → H → K2 → Prop
  | .expr e, l, h, Q => wpE Γ e l h fun v h1 => v = .none ∧ Q .next l h1
  | .asg t e, l, h, Q => wpE Γ e l h fun v h1 => wpT Γ t v l h1 fun l2 h2 => Q .next l2 h2
  | .aug o n op e, l, h, Q => wpE Γ o l h fun x h1 => wpAttr x n h1 fun y h2 => wpE Γ e l h2 fun z h3 => (match y with | .int _ => True | _ => False) ∧ wpBin op y z h3 fun r h4 => wpSetAttr x n r h4 fun h5 => Q .next l h5
  | .ite t a b, l, h, Q => wpE Γ t l h fun x h1 => match x with
    | .bool c => (match c with | true => wpSs a l h1 Q | false => wpSs b l h1 Q)
    | _ => False
  | .while t b, l, h, Q => ∃ I : Nat → L → H → Prop, (∃ n, I n l h) ∧ ∀ n l1 h1, I n l1 h1 → wpE Γ t l1 h1 fun x h2 => match x with
    | .bool c => (c = false → Q .next l1 h2) ∧ (c = true → wpSs b l1 h2 fun f l3 h3 => match f with
      | .next => ∃ m, m < n ∧ I m l3 h3
      | .brk => Q .next l3 h3
      | .ret r => Q (.ret r) l3 h3)
    | _ => False
  | .for x it b, l, h, Q => wpIt Γ it l h fun vs ok h1 => wpFor (fun l2 h2 Q2 => wpSs b l2 h2 Q2) x ok vs l h1 Q
  | .ret e, l, h, Q => wpE Γ e l h fun v h1 => Q (.ret v) l h1
  | .brk, l, h, Q => Q .brk l h
  | .try_ b, l, h, Q => wpSs b l h Q
  | .raise, _, _, _ => False
noncomputable def wpSs : Ss → L → H → K2 → Prop
  | .nil, l, h, Q => Q .next l h
  | .cons s r, l, h, Q => wpS s l h fun f l1 h1 => match f with
    | .next => wpSs r l1 h1 Q
    | f => Q f l1 h1
end
end
theorem vObj {P : Nat → Prop} {G : V → Prop} {v : V} (q : match v with | .obj k => P k | _ => False) (k : ∀ i, P i → G (.obj i)) : G v := by
  cases v <;> first | exact q.elim | exact k _ q
theorem vObjE {P : Nat → Prop} {G : Prop} {v : V} (q : match v with | .obj k => P k | _ => False) (k : ∀ i, v = .obj i → P i → G) : G := by
  cases v <;> first | exact q.elim | exact k _ rfl q
theorem oList {P : List V → Prop} {G : Prop} {o : Option O} (q : match o with | some (.list vs) => P vs | _ => False) (k : ∀ vs, o = some (.list vs) → P vs → G) : G := by
  cases o with
  | none => exact q.elim
  | some o => cases o <;> first | exact q.elim | exact k _ rfl q
theorem oTup {P : List V → Prop} {G : Prop} {o : Option O} (q : match o with | some (.tup vs) => P vs | _ => False) (k : ∀ vs, o = some (.tup vs) → P vs → G) : G := by
  cases o with
  | none => exact q.elim
  | some o => cases o <;> first | exact q.elim | exact k _ rfl q
theorem oDict {P : List (N × V) → Prop} {G : Prop} {o : Option O} (q : match o with | some (.dict vs) => P vs | _ => False) (k : ∀ vs, o = some (.dict vs) → P vs → G) : G := by
  cases o with
  | none => exact q.elim
  | some o => cases o <;> first | exact q.elim | exact k _ rfl q
theorem oInst {P : C → List (N × V) → Prop} {G : Prop} {o : Option O} (q : match o with | some (.inst c vs) => P c vs | _ => False) (k : ∀ c vs, o = some (.inst c vs) → P c vs → G) : G := by
  cases o with
  | none => exact q.elim
  | some o => cases o <;> first | exact q.elim | exact k _ _ rfl q
section
variable {Γ : Nat → List V → H → K1 → Prop} {l : L} {h : H} {Q : L → H → Prop}
theorem yA : wpT0s Γ [] [] l h Q = Q l h := rfl
theorem yB {t : T0} {ts : List T0} {v : V} {vs : List V} : wpT0s Γ (t :: ts) (v :: vs) l h Q = wpT0 Γ t v l h fun l1 h1 => wpT0s Γ ts vs l1 h1 Q := rfl
end
/- ==== equations ==== -/
section
variable {Γ : Nat → List V → H → K1 → Prop} {l : L} {h : H} {Q : K1}
theorem vC {i : Int}: wpE Γ (.int i) l h Q = (Q (.int i) h) := rfl
theorem vF {i : Nat}: wpE Γ (.loc i) l h Q = (match l[i]? with | some (some v) => Q v h | _ => False) := rfl
theorem vI {a : E}: wpE Γ (.neg a) l h Q = (wpE Γ a l h fun x h1 => match x with | .int i => Q (.int (-i)) h1 | _ => False) := rfl
theorem wK {fr : List Nat} {elt : E} {it : E}: wpE Γ (.comp fr elt it) l h Q = (wpE Γ it l h fun x h1 => match x with
    | .obj k => (match h1[k]? with
      | some (.list vs) => ∃ f : V → V, (vs.length ≤ 1000 ∧ ∀ v ∈ vs, wpE Γ elt (some v :: frees fr l) h1 fun y h2 => y = f v ∧ plainV y = true ∧ ∃ g, h2 = h1 ++ g) ∧
        Q (.obj h1.length) (h1 ++ [.list (vs.map f)])
      | _ => False)
    | _ => False) := rfl
theorem wL {fr : List Nat} {elt : E} {it : E} {test : E}: wpE Γ (.compIf fr elt it test) l h Q = (wpE Γ it l h fun x h1 => match x with
    | .obj k => (match h1[k]? with
      | some (.list vs) => ∃ (f : V → V) (p : V → Bool), (vs.length ≤ 1000 ∧ ∀ v ∈ vs, (wpE Γ test (some v :: frees fr l) h1 fun b h2 => b = .bool (p v) ∧ ∃ g, h2 = h1 ++ g) ∧
        (p v = true → wpE Γ elt (some v :: frees fr l) h1 fun y h2 => y = f v ∧ plainV y = true ∧ ∃ g, h2 = h1 ++ g)) ∧
        Q (.obj h1.length) (h1 ++ [.list ((vs.filter p).map f)])
      | _ => False)
    | _ => False) := rfl
theorem wM {fr : List Nat} {elt : E} {it : E}: wpE Γ (.compEn fr elt it) l h Q = (wpE Γ it l h fun x h1 => match x with
    | .bytes b => ∃ f : Nat → V, (b.length ≤ 1000 ∧ ∀ (i : Nat) (v : UInt8), b[i]? = some v → wpE Γ elt (some (.int i) :: some (.int v.toNat) :: frees fr l) h1 fun y h2 => y = f i ∧ plainV y = true ∧ ∃ g, h2 = h1 ++ g) ∧
        Q (.obj h1.length) (h1 ++ [.list ((List.range b.length).map f)])
    | _ => False
) := rfl
end
section
variable {Γ : Nat → List V → H → K1 → Prop} {l : L} {h : H} {Q : K2}
theorem xB {t : T} {e : E}: wpS Γ (.asg t e) l h Q = (wpE Γ e l h fun v h1 => wpT Γ t v l h1 fun l2 h2 => Q .next l2 h2) := rfl
theorem xE {t : E} {b : Ss}: wpS Γ (.while t b) l h Q = (∃ I : Nat → L → H → Prop, (∃ n, I n l h) ∧ ∀ n l1 h1, I n l1 h1 → wpE Γ t l1 h1 fun x h2 => match x with
    | .bool c => (c = false → Q .next l1 h2) ∧ (c = true → wpSs Γ b l1 h2 fun f l3 h3 => match f with
      | .next => ∃ m, m < n ∧ I m l3 h3
      | .brk => Q .next l3 h3
      | .ret r => Q (.ret r) l3 h3)
    | _ => False) := rfl
theorem xF {x : Nat} {it : It} {b : Ss}: wpS Γ (.for x it b) l h Q = (wpIt Γ it l h fun vs ok h1 => wpFor (fun l2 h2 Q2 => wpSs Γ b l2 h2 Q2) x ok vs l h1 Q) := rfl
end
end Mine
end
section
set_option backward.match.sparseCases false
set_option maxRecDepth 100000
namespace Mine
open PySem PySem.W PyProof.Rows
/- ==== how the plain state lies in the machine's ==== -/
noncomputable abbrev R := List (Addr × Addr)
noncomputable def RV (ρ : R) : V → Value → Prop
  | .none, v => v = .none
  | .bool b, v => v = .bool b
  | .int i, v => ∃ t, v = .int i t
  | .str n, v => ∃ t, v = .str n.s t
  | .bytes b, v => b.length ≤ 16777216 ∧ ∃ t, v = .bytes b.toArray t
  | .obj k, v => ∃ p, ρ[k]? = some p ∧ v = .ref p.1
  | .sizes, v => v = .ref 75
  | .kinds, v => v = .ref 167
noncomputable def RVs (ρ : R) : List V → List Value → Prop
  | [], [] => True
  | x :: xs, v :: vs => RV ρ x v ∧ RVs ρ xs vs
  | _, _ => False
noncomputable def REs (w : World) (ρ : R) : List (N × V) → List DictEntry → Prop
  | [], [] => True
  | (n, x) :: kv, e :: es => (e.hash = PyData.keyHash w.params n.s ∧ (∃ t, e.key = .str n.s t) ∧ RV ρ x e.val) ∧ REs w ρ kv es
  | _, _ => False
noncomputable def RDs (ρ : R) : List (N × V) → List (Str × Value) → Prop
  | [], [] => True
  | (n, x) :: kv, e :: es => (e.1 = n.s ∧ RV ρ x e.2) ∧ RDs ρ kv es
  | _, _ => False
noncomputable def RIs : List Int → List Value → Prop
  | [], [] => True
  | i :: is, v :: vs => (∃ t, v = .int i t) ∧ RIs is vs
  | _, _ => False
noncomputable def clsA : C → Addr
  | .reader => 162
  | .raw => 184
noncomputable def RO (w : World) (ρ : R) (h : Heap) (p : Addr × Addr) : O → Prop
  | .list l => p.2 = p.1 ∧ ∃ arr n, h.get? p.1 = some { cls := .type "list", data := .seq arr n } ∧ RVs ρ l arr.toList
  | .tup l => p.2 = p.1 ∧ ∃ arr n, h.get? p.1 = some { cls := .type "tuple", data := .seq arr n } ∧ RVs ρ l arr.toList
  | .dict kv => p.2 = p.1 ∧ ∃ kvs ob, h.get? p.1 = some ob ∧ ob.IsDictOf (strKind pw w) kvs ∧ RDs ρ kv kvs
  | .inst c fs => ∃ es n, h.get? p.1 = some (instObj (clsA c) p.2) ∧ h.get? p.2 = some (dictOf es n) ∧ REs w ρ fs es
  | .barr b => p.2 = p.1 ∧ h.get? p.1 = some { cls := .type "bytearray", data := .bytearray b.toArray 0 }
  | .ro o l => p.2 = p.1 ∧ h.get? p.1 = some o ∧ ∃ arr n, o = { cls := .type "list", data := .seq arr n } ∧ RIs l arr.toList
/-- what the top has left, for good -/
structure Base (w : World) (B : Heap) : Prop where
  k : (K w.params).In B
  codes : ∀ p ∈ codesOf (K w.params), codeQual B p.1 = some p.2
  lim : B.NoLimit
  glob : ∃ mg, B.Ns mainGlobals mg
  blt : ∃ mb, B.Ns builtinsNs mb ∧ ∀ x : Str, x ≠ "__name__" → mb x = bootBuiltins x
structure HR (w : World) (B : Heap) (ρ : R) (h : H) (s : Shared) : Prop where
  len : ρ.length = h.length
  base : ∀ b o, B.get? b = some o → s.heap.get? b = some o
  objs : ∀ (k : Nat) o p, h[k]? = some o → ρ[k]? = some p → RO w ρ s.heap p o
  apart : ∀ (i j : Nat) p q, ρ[i]? = some p → ρ[j]? = some q → i ≠ j → p.1 ≠ q.1 ∧ p.1 ≠ q.2 ∧ p.2 ≠ q.2
  fresh : ∀ (k : Nat) p o, ρ[k]? = some p → h[k]? = some o → (∀ x l, o ≠ .ro x l) → (B.get? p.1 = none ∧ B.get? p.2 = none) ∧ 3 < p.1 ∧ 3 < p.2
  g3 : ∃ o, B.get? 3 = some o
noncomputable def Pres (ρ : R) (s s' : Shared) : Prop := ∀ b o, s.heap.get? b = some o → (∀ p ∈ ρ, b ≠ p.1 ∧ b ≠ p.2) → s'.heap.get? b = some o
structure Step (ρ ρ' : R) (s s' : Shared) : Prop where
  ext : ∃ g, ρ' = ρ ++ g ∧ ∀ p ∈ g, s.heap.get? p.1 = none ∧ s.heap.get? p.2 = none
  pres : Pres ρ s s'
  rest : ∃ h' tk, s' = { s with heap := h', toks := tk }
theorem Step.refl {ρ : R} {s : Shared} : Step ρ ρ s s := ⟨⟨[], by simp, fun _ h => nomatch h⟩, fun _ _ e _ => e, ⟨_, _, rfl⟩⟩
theorem Step.toks {ρ : R} {s : Shared} {k : Nat} : Step ρ ρ s { s with toks := k } := ⟨⟨[], by simp, fun _ h => nomatch h⟩, fun _ _ e _ => e, ⟨_, _, rfl⟩⟩
theorem Step.sub {ρ ρ' : R} {s s' : Shared} (x : Step ρ ρ' s s') : ∀ (k : Nat) p, ρ[k]? = some p → ρ'[k]? = some p := by
  obtain ⟨g, rfl, _⟩ := x.ext
  intro k p e
  rw [List.getElem?_append_left (List.getElem?_eq_some_iff.mp e).1]; exact e
theorem Step.trans {ρ ρ₁ ρ₂ : R} {s s₁ s₂ : Shared} (x : Step ρ ρ₁ s s₁) (y : Step ρ₁ ρ₂ s₁ s₂)
    (old : ∀ b o, s.heap.get? b = some o → ∃ o', s₁.heap.get? b = some o') : Step ρ ρ₂ s s₂ := by
  obtain ⟨g, e1, h1⟩ := x.ext
  obtain ⟨g', e2, h2⟩ := y.ext
  refine ⟨⟨g ++ g', by rw [e2, e1, List.append_assoc], fun p hp => ?_⟩, fun b o e hb => ?_, ?_⟩
  · rcases List.mem_append.mp hp with hp | hp
    · exact h1 p hp
    · constructor
      · cases q : s.heap.get? p.1 with
        | none => rfl
        | some o => obtain ⟨o', e'⟩ := old _ _ q; rw [(h2 p hp).1] at e'; cases e'
      · cases q : s.heap.get? p.2 with
        | none => rfl
        | some o => obtain ⟨o', e'⟩ := old _ _ q; rw [(h2 p hp).2] at e'; cases e'
  · refine y.pres b o (x.pres b o e hb) fun p hp => ?_
    rw [e1] at hp
    rcases List.mem_append.mp hp with hp | hp
    · exact hb p hp
    · constructor
      · rintro rfl; rw [(h1 p hp).1] at e; cases e
      · rintro rfl; rw [(h1 p hp).2] at e; cases e
  · obtain ⟨a, b, rfl⟩ := x.rest
    obtain ⟨c, d, rfl⟩ := y.rest
    exact ⟨c, d, rfl⟩
theorem RV.mono {ρ ρ' : R} (hs : ∀ (k : Nat) p, ρ[k]? = some p → ρ'[k]? = some p) {x : V} {v : Value} (h : RV ρ x v) : RV ρ' x v := by
  cases x <;> first | exact h | exact ⟨_, hs _ _ h.choose_spec.1, h.choose_spec.2⟩
theorem RVs.mono {ρ ρ' : R} (hs : ∀ (k : Nat) p, ρ[k]? = some p → ρ'[k]? = some p) : ∀ {xs : List V} {vs : List Value}, RVs ρ xs vs → RVs ρ' xs vs
  | [], [], _ => trivial
  | _ :: _, _ :: _, h => ⟨h.1.mono hs, RVs.mono hs h.2⟩
  | [], _ :: _, h => h.elim
  | _ :: _, [], h => h.elim
theorem REs.mono {w : World} {ρ ρ' : R} (hs : ∀ (k : Nat) p, ρ[k]? = some p → ρ'[k]? = some p) : ∀ {xs : List (N × V)} {vs : List DictEntry}, REs w ρ xs vs → REs w ρ' xs vs
  | [], [], _ => trivial
  | (_, _) :: _, _ :: _, h => ⟨⟨h.1.1, h.1.2.1, h.1.2.2.mono hs⟩, REs.mono hs h.2⟩
  | [], _ :: _, h => h.elim
  | _ :: _, [], h => h.elim
theorem RDs.mono {ρ ρ' : R} (hs : ∀ (k : Nat) p, ρ[k]? = some p → ρ'[k]? = some p) : ∀ {xs : List (N × V)} {vs : List (Str × Value)}, RDs ρ xs vs → RDs ρ' xs vs
  | [], [], _ => trivial
  | (_, _) :: _, _ :: _, h => ⟨⟨h.1.1, h.1.2.mono hs⟩, RDs.mono hs h.2⟩
  | [], _ :: _, h => h.elim
  | _ :: _, [], h => h.elim
theorem RVs.length {ρ : R} : ∀ {xs : List V} {vs : List Value}, RVs ρ xs vs → xs.length = vs.length
  | [], [], _ => rfl
  | _ :: _, _ :: _, h => congrArg (· + 1) (RVs.length h.2)
  | [], _ :: _, h => h.elim
  | _ :: _, [], h => h.elim
theorem RVs.get {ρ : R} : ∀ {xs : List V} {vs : List Value}, RVs ρ xs vs → ∀ {i : Nat} {x : V}, xs[i]? = some x → ∃ v, vs[i]? = some v ∧ RV ρ x v
  | x :: _, v :: _, h, 0, y, e => by cases e; exact ⟨v, rfl, h.1⟩
  | _ :: _, _ :: _, h, i + 1, y, e => RVs.get h.2 (i := i) e
  | [], [], _, _, _, e => by simp at e
  | [], _ :: _, h, _, _, _ => h.elim
  | _ :: _, [], h, _, _, _ => h.elim
theorem RVs.append {ρ : R} : ∀ {xs ys : List V} {vs us : List Value}, RVs ρ xs vs → RVs ρ ys us → RVs ρ (xs ++ ys) (vs ++ us)
  | [], _, [], _, _, k => k
  | _ :: _, _, _ :: _, _, h, k => ⟨h.1, RVs.append h.2 k⟩
  | [], _, _ :: _, _, h, _ => h.elim
  | _ :: _, _, [], _, h, _ => h.elim
theorem RVs.set {ρ : R} : ∀ {xs : List V} {vs : List Value} (i : Nat) {y : V} {u : Value}, RVs ρ xs vs → RV ρ y u → RVs ρ (xs.set i y) (vs.set i u)
  | [], [], _, _, _, _, _ => by simp [RVs]
  | x :: xs, v :: vs, 0, _, _, h, k => ⟨k, h.2⟩
  | x :: xs, v :: vs, i + 1, _, _, h, k => ⟨h.1, RVs.set i h.2 k⟩
  | [], _ :: _, _, _, _, h, _ => h.elim
  | _ :: _, [], _, _, _, h, _ => h.elim
theorem RO.mono {w : World} {ρ ρ' : R} {h h' : Heap} {p : Addr × Addr} {o : O} (hs : ∀ (k : Nat) p, ρ[k]? = some p → ρ'[k]? = some p)
    (h1 : ∀ x, h.get? p.1 = some x → h'.get? p.1 = some x) (h2 : ∀ x, h.get? p.2 = some x → h'.get? p.2 = some x) (r : RO w ρ h p o) : RO w ρ' h' p o := by
  cases o with
  | list l => obtain ⟨z, a, n, e, q⟩ := r; exact ⟨z, a, n, h1 _ e, q.mono hs⟩
  | tup l => obtain ⟨z, a, n, e, q⟩ := r; exact ⟨z, a, n, h1 _ e, q.mono hs⟩
  | dict kv => obtain ⟨z, a, n, e, i, q⟩ := r; exact ⟨z, a, n, h1 _ e, i, q.mono hs⟩
  | inst c fs => obtain ⟨a, n, e, e2, q⟩ := r; exact ⟨a, n, h1 _ e, h2 _ e2, q.mono hs⟩
  | barr b => exact ⟨r.1, h1 _ r.2⟩
  | ro o l => exact ⟨r.1, h1 _ r.2.1, r.2.2⟩
section
variable {w : World} {B : Heap} {ρ : R} {h : H} {s : Shared}
theorem HR.toks (x : HR w B ρ h s) (k : Nat) : HR w B ρ h { s with toks := k } := ⟨x.len, x.base, x.objs, x.apart, x.fresh, x.g3⟩
theorem HR.at (x : HR w B ρ h s) {k : Nat} {o : O} (e : h[k]? = some o) : ∃ p, ρ[k]? = some p ∧ RO w ρ s.heap p o := by
  have hk : k < ρ.length := by rw [x.len]; exact (List.getElem?_eq_some_iff.mp e).1
  exact ⟨ρ[k], List.getElem?_eq_getElem hk, x.objs k o _ e (List.getElem?_eq_getElem hk)⟩
/-- the machine made something of its own -/
theorem HR.more (x : HR w B ρ h s) {h' : Heap} {tk : Nat} (k : ∀ b o, s.heap.get? b = some o → h'.get? b = some o) : HR w B ρ h { s with heap := h', toks := tk } :=
  ⟨x.len, fun b o e => k _ _ (x.base b o e), fun i o p e1 e2 => (x.objs i o p e1 e2).mono (fun _ _ e => e) (fun _ e => k _ _ e) fun _ e => k _ _ e, x.apart, x.fresh, x.g3⟩
theorem Step.more {h' : Heap} {tk : Nat} (k : ∀ b o, s.heap.get? b = some o → h'.get? b = some o) : Step ρ ρ s { s with heap := h', toks := tk } :=
  ⟨⟨[], by simp, fun _ h => nomatch h⟩, fun b o e _ => k b o e, ⟨_, _, rfl⟩⟩
theorem RO.live {p : Addr × Addr} {hh : Heap} {o : O} (r : RO w ρ hh p o) : (∃ x, hh.get? p.1 = some x) ∧ ∃ x, hh.get? p.2 = some x := by
  cases o with
  | list l => obtain ⟨z, a, n, e, q⟩ := r; rw [z]; exact ⟨⟨_, e⟩, ⟨_, e⟩⟩
  | tup l => obtain ⟨z, a, n, e, q⟩ := r; rw [z]; exact ⟨⟨_, e⟩, ⟨_, e⟩⟩
  | dict kv => obtain ⟨z, a, n, e, q⟩ := r; rw [z]; exact ⟨⟨_, e⟩, ⟨_, e⟩⟩
  | inst c fs => obtain ⟨a, n, e, e2, q⟩ := r; exact ⟨⟨_, e⟩, ⟨_, e2⟩⟩
  | barr b => obtain ⟨z, e⟩ := r; rw [z]; exact ⟨⟨_, e⟩, ⟨_, e⟩⟩
  | ro o l => obtain ⟨z, e, _⟩ := r; rw [z]; exact ⟨⟨_, e⟩, ⟨_, e⟩⟩
theorem HR.live (x : HR w B ρ h s) {p : Addr × Addr} (hp : p ∈ ρ) : (∃ o, s.heap.get? p.1 = some o) ∧ ∃ o, s.heap.get? p.2 = some o := by
  obtain ⟨k, hk, rfl⟩ := List.getElem_of_mem hp
  have hk' : k < h.length := by rw [← x.len]; exact hk
  exact (x.objs k h[k] ρ[k] (List.getElem?_eq_getElem hk') (List.getElem?_eq_getElem hk)).live
theorem HR.old {ρ₁ : R} {h₁ : H} {s₁ : Shared} (x : HR w B ρ₁ h₁ s₁) (st : Step ρ ρ₁ s s₁) (b : Addr) (o : Obj) (e : s.heap.get? b = some o) : ∃ o', s₁.heap.get? b = some o' := by
  by_cases hb : ∀ p ∈ ρ, b ≠ p.1 ∧ b ≠ p.2
  · exact ⟨o, st.pres b o e hb⟩
  · simp only [Classical.not_forall] at hb
    obtain ⟨p, hp, hn⟩ := hb
    obtain ⟨g, e1, _⟩ := st.ext
    have l := x.live (p := p) (by rw [e1]; exact List.mem_append.mpr (.inl hp))
    by_cases h1 : b = p.1
    · subst h1; exact l.1
    · by_cases h2 : b = p.2
      · subst h2; exact l.2
      · exact absurd ⟨h1, h2⟩ hn
theorem Step.then {ρ₁ ρ₂ : R} {h₁ : H} {s₁ s₂ : Shared} (st : Step ρ ρ₁ s s₁) (x : HR w B ρ₁ h₁ s₁) (y : Step ρ₁ ρ₂ s₁ s₂) : Step ρ ρ₂ s s₂ := st.trans y (x.old st)
/-- a new object of the text's own -/
theorem HR.push (x : HR w B ρ h s) {ob : Obj} {o : O} {h' : Heap} {tk : Nat} (hh : h' = s.heap.push ob)
    (r : RO w (ρ ++ [(s.heap.objs.size, s.heap.objs.size)]) h' (s.heap.objs.size, s.heap.objs.size) o) :
    HR w B (ρ ++ [(s.heap.objs.size, s.heap.objs.size)]) (h ++ [o]) { s with heap := h', toks := tk } ∧ Step ρ (ρ ++ [(s.heap.objs.size, s.heap.objs.size)]) s { s with heap := h', toks := tk } := by
  have keep : ∀ b o, s.heap.get? b = some o → h'.get? b = some o := fun b o e => hh ▸ Heap.get?_push_of_some _ e
  have none : s.heap.get? s.heap.objs.size = none := by
    cases q : s.heap.get? s.heap.objs.size with
    | none => rfl
    | some o => exact absurd (Heap.lt_size q) (Nat.lt_irrefl _)
  have sub : ∀ (k : Nat) p, ρ[k]? = some p → (ρ ++ [(s.heap.objs.size, s.heap.objs.size)])[k]? = some p := fun k p e => by
    rw [List.getElem?_append_left (List.getElem?_eq_some_iff.mp e).1]; exact e
  have lts : ∀ p ∈ ρ, p.1 ≠ s.heap.objs.size ∧ p.2 ≠ s.heap.objs.size := fun p hp => by
    refine hide fun gp gg => ?_; obtain ⟨⟨a, ea⟩, ⟨b, eb⟩⟩ := x.live hp; refine gg ?_; clear gg gp
    exact ⟨Nat.ne_of_lt (Heap.lt_size ea), Nat.ne_of_lt (Heap.lt_size eb)⟩
  have get : ∀ (i : Nat) p, (ρ ++ [(s.heap.objs.size, s.heap.objs.size)])[i]? = some p → (ρ[i]? = some p ∧ p ∈ ρ) ∨ (i = ρ.length ∧ p = (s.heap.objs.size, s.heap.objs.size)) := fun i p e => by
    by_cases hi : i < ρ.length
    · rw [List.getElem?_append_left hi] at e; exact .inl ⟨e, List.mem_of_getElem? e⟩
    · rw [List.getElem?_append_right (by (first | lia | omega))] at e
      have : i - ρ.length = 0 := by
        have := (List.getElem?_eq_some_iff.mp e).1
        simp at this; (first | lia | omega)
      rw [this] at e
      exact .inr ⟨by (first | lia | omega), by simpa using e.symm⟩
  refine ⟨⟨by simp [x.len], fun b o e => keep _ _ (x.base b o e), fun k o' p e1 e2 => ?_, fun i j p q e1 e2 ne => ?_, fun k p o' e1 e2 hn => ?_, x.g3⟩, ⟨⟨[_], rfl, fun p hp => ?_⟩, fun b o e _ => keep b o e, ⟨_, _, rfl⟩⟩⟩
  · rcases get k p e2 with ⟨e2, _⟩ | ⟨rfl, rfl⟩
    · have hk : k < h.length := by rw [← x.len]; exact (List.getElem?_eq_some_iff.mp e2).1
      rw [List.getElem?_append_left hk] at e1
      exact (x.objs k o' p e1 e2).mono sub (fun _ e => keep _ _ e) fun _ e => keep _ _ e
    · rw [x.len, List.getElem?_append_right (Nat.le_refl _)] at e1
      simp only [Nat.sub_self, List.getElem?_cons_zero, Option.some.injEq] at e1
      subst e1
      exact r
  · rcases get i p e1 with ⟨e1, m1⟩ | ⟨rfl, rfl⟩ <;> rcases get j q e2 with ⟨e2, m2⟩ | ⟨rfl, rfl⟩
    · exact x.apart i j p q e1 e2 ne
    · exact ⟨(lts p m1).1, (lts p m1).1, (lts p m1).2⟩
    · exact ⟨(lts q m2).1.symm, (lts q m2).2.symm, (lts q m2).2.symm⟩
    · exact absurd rfl ne
  · rcases get k p e1 with ⟨e1, _⟩ | ⟨rfl, rfl⟩
    · have hk : k < h.length := by rw [← x.len]; exact (List.getElem?_eq_some_iff.mp e1).1
      rw [List.getElem?_append_left hk] at e2
      exact x.fresh k p o' e1 e2 hn
    · have : B.get? s.heap.objs.size = Option.none := by
        cases q : B.get? s.heap.objs.size with
        | none => rfl
        | some o => exact absurd (Heap.lt_size (x.base _ _ q)) (Nat.lt_irrefl _)
      have g : 3 < s.heap.objs.size := by obtain ⟨o, e⟩ := x.g3; exact Heap.lt_size (x.base _ _ e)
      exact ⟨⟨this, this⟩, g, g⟩
  · rw [List.mem_singleton.mp hp]; exact ⟨none, none⟩
/-- an object of the text's own is changed -/
theorem HR.upd (x : HR w B ρ h s) {k : Nat} {p : Addr × Addr} {o o' : O} {h' : Heap} {tk : Nat} (hk : h[k]? = some o) (hp : ρ[k]? = some p) (hro : ∀ y l, o ≠ .ro y l)
    (hs : ∀ b y, b ≠ p.1 → b ≠ p.2 → s.heap.get? b = some y → h'.get? b = some y) (r : RO w ρ h' p o') :
    HR w B ρ (h.set k o') { s with heap := h', toks := tk } ∧ Step ρ ρ s { s with heap := h', toks := tk } := by
  have fr := x.fresh k p o hp hk hro
  refine ⟨⟨by simp [x.len], fun b y e => hs b y ?_ ?_ (x.base b y e), fun i o2 p2 e1 e2 => ?_, x.apart, fun i p2 o2 e1 e2 hn => ?_, x.g3⟩, ⟨⟨[], by simp, fun _ h => nomatch h⟩, fun b y e hb => hs b y (hb p (List.mem_of_getElem? hp)).1 (hb p (List.mem_of_getElem? hp)).2 e, ⟨_, _, rfl⟩⟩⟩
  · rintro rfl; rw [fr.1.1] at e; cases e
  · rintro rfl; rw [fr.1.2] at e; cases e
  · rw [List.getElem?_set] at e1
    by_cases hi : k = i
    · subst hi
      rw [hp] at e2; cases e2
      have : k < h.length := (List.getElem?_eq_some_iff.mp hk).1
      simp only [if_true, this] at e1
      cases e1
      exact r
    · rw [if_neg hi] at e1
      have ap := x.apart i k p2 p e2 hp (Ne.symm hi)
      have ap' := x.apart k i p p2 hp e2 hi
      exact (x.objs i o2 p2 e1 e2).mono (fun _ _ e => e) (fun y e => hs _ y ap.1 ap.2.1 e) fun y e => hs _ y (Ne.symm ap'.2.1) ap.2.2 e
  · rw [List.getElem?_set] at e2
    by_cases hi : k = i
    · subst hi
      rw [hp] at e1; cases e1
      exact fr
    · rw [if_neg hi] at e2
      exact x.fresh i p2 o2 e1 e2 hn
end
end Mine
end
section
set_option backward.match.sparseCases false
set_option maxRecDepth 100000
namespace Mine
open PySem PySem.W PyProof.Rows
noncomputable def PE (w : World) (B : Heap) (ρ : R) (s : Shared) (Q : K1) : Value → Shared → Prop :=
  fun val s' => ∃ v h' ρ', Q v h' ∧ RV ρ' v val ∧ HR w B ρ' h' s' ∧ Step ρ ρ' s s'
noncomputable abbrev no : Value → Shared → Prop := fun _ _ => False
/-- room below the machine's limits -/
structure Room (A : Around) (n : Nat) : Prop where
  handled : A.handled = none
  depth : A.depth + 4 * n + 4 < recursionLimit
  units : A.units + 8 * n + 8 < cLine
/-- a little less -/
structure Roo2 (A : Around) (n : Nat) : Prop where
  handled : A.handled = none
  depth : A.depth + 4 * n + 2 < recursionLimit
  units : A.units + 8 * n + 4 < cLine
theorem Room.two {A : Around} {n : Nat} (r : Room A n) : Roo2 A n := ⟨r.handled, by have := r.depth; (first | lia | omega), by have := r.units; (first | lia | omega)⟩
noncomputable abbrev Wp (w : World) (B : Heap) (A : Around) (t : Sem Value) (ρ : R) (s : Shared) (Q : K1) : Prop := wpAny (model pw w) A t (PE w B ρ s Q) no s
section
variable {w : World} {B : Heap} {A : Around} {ρ ρ₁ : R} {h h₁ : H} {s s₁ : Shared} {Q Q₁ : K1}
theorem PE.shift {val : Value} {s' : Shared} (st : Step ρ ρ₁ s s₁) (x : HR w B ρ₁ h₁ s₁) (p : PE w B ρ₁ s₁ Q val s') : PE w B ρ s Q val s' := by
  refine hide fun gp gg => ?_; obtain ⟨v, h', ρ', q, r, hr, st'⟩ := p; refine gg ?_; clear gg gp
  exact ⟨v, h', ρ', q, r, hr, st.then x st'⟩
theorem Wp.shift {t : Sem Value} (st : Step ρ ρ₁ s s₁) (x : HR w B ρ₁ h₁ s₁) (p : Wp w B A t ρ₁ s₁ Q) : wpAny (model pw w) A t (PE w B ρ s Q) no s₁ :=
  wpAny_mono p (fun _ _ z => z.shift st x) fun _ _ e => e
theorem Wp.bind {t : Sem Value} {f : Value → Shared → Prop} (p : Wp w B A t ρ s Q₁)
    (k : ∀ v val h₁ ρ₁ s₁, Q₁ v h₁ → RV ρ₁ v val → HR w B ρ₁ h₁ s₁ → Step ρ ρ₁ s s₁ → f val s₁) : wpAny (model pw w) A t f no s :=
  wpAny_mono p (fun val s₁ ⟨v, h₁, ρ₁, q, r, hr, st⟩ => k v val h₁ ρ₁ s₁ q r hr st) fun _ _ e => e
theorem PE.val {v : V} {val : Value} {k : Nat} (x : HR w B ρ h s) (q : Q v h) (r : RV ρ v val) : PE w B ρ s Q val { s with toks := k } := ⟨v, h, ρ, q, r, x.toks k, .toks⟩
theorem PE.val' {v : V} {val : Value} (x : HR w B ρ h s) (q : Q v h) (r : RV ρ v val) : PE w B ρ s Q val s := ⟨v, h, ρ, q, r, x, .refl⟩
theorem PE.more {v : V} {val : Value} {h' : Heap} {k : Nat} (x : HR w B ρ h s) (hk : ∀ b o, s.heap.get? b = some o → h'.get? b = some o) (q : Q v h) (r : RV ρ v val) : PE w B ρ s Q val { s with heap := h', toks := k } := ⟨v, h, ρ, q, r, x.more hk, .more hk⟩
theorem sub_push {ρ : R} (x : Addr × Addr) : ∀ (k : Nat) p, ρ[k]? = some p → (ρ ++ [x])[k]? = some p := fun k p e => by
  rw [List.getElem?_append_left (List.getElem?_eq_some_iff.mp e).1]; exact e
theorem PE.push {ob : Obj} {o : O} {k : Nat} (x : HR w B ρ h s) (q : Q (.obj h.length) (h ++ [o]))
    (r : RO w (ρ ++ [(s.heap.objs.size, s.heap.objs.size)]) (s.heap.push ob) (s.heap.objs.size, s.heap.objs.size) o) :
    PE w B ρ s Q (.ref s.heap.objs.size) { s with heap := s.heap.push ob, toks := k } := by
  obtain ⟨a, b⟩ := x.push (tk := k) (h' := s.heap.push ob) rfl r
  exact ⟨_, _, _, q, ⟨_, by rw [← x.len, List.getElem?_append_right (Nat.le_refl _), Nat.sub_self]; rfl, rfl⟩, a, b⟩
/- ==== ints ==== -/
theorem bitAnd_nat {a b : Int} (ha : 0 ≤ a) (hb : 0 ≤ b) : Builtin.bitAnd a b = ((a.toNat &&& b.toNat : Nat) : Int) := by
  unfold Builtin.bitAnd; simp [ha, hb]
theorem bitNot_not (x : Int) : Builtin.bitNot (Builtin.bitNot x) = x := by unfold Builtin.bitNot; (first | lia | omega)
theorem bitOr_nat {a b : Int} (ha : 0 ≤ a) (hb : 0 ≤ b) : Builtin.bitOr a b = ((a.toNat ||| b.toNat : Nat) : Int) := by
  have h1 : ¬ 0 ≤ Builtin.bitNot a := by unfold Builtin.bitNot; (first | lia | omega)
  have h2 : ¬ 0 ≤ Builtin.bitNot b := by unfold Builtin.bitNot; (first | lia | omega)
  have e : Builtin.bitAnd (Builtin.bitNot a) (Builtin.bitNot b) = Builtin.bitNot ((a.toNat ||| b.toNat : Nat) : Int) := by
    unfold Builtin.bitAnd
    rw [decide_eq_false h1, decide_eq_false h2]
    simp only [bitNot_not]
  unfold Builtin.bitOr
  rw [e, bitNot_not]
theorem or_split (a : Nat) : ∀ b : Nat, (a ||| b) = (a ^^^ b) + (a &&& b) := by
  induction a using Nat.strongRecOn with
  | _ a ih =>
    intro b
    by_cases h : a = 0
    · subst h; simp
    · have i := ih (a / 2) (by (first | lia | omega)) (b / 2)
      have o1 := @Nat.or_div_two a b
      have o2 := @Nat.xor_div_two a b
      have o3 := @Nat.and_div_two a b
      have m1 : (a ||| b) % 2 = 1 ↔ _ := Nat.or_mod_two_eq_one
      have m2 : (a ^^^ b) % 2 = 1 ↔ _ := Nat.xor_mod_two_eq_one
      have m3 : (a &&& b) % 2 = 1 ↔ _ := Nat.and_mod_two_eq_one
      have d1 := Nat.div_add_mod (a ||| b) 2
      have d2 := Nat.div_add_mod (a ^^^ b) 2
      have d3 := Nat.div_add_mod (a &&& b) 2
      rw [o1] at d1; rw [o2] at d2; rw [o3] at d3
      have z : (a ||| b) % 2 = (a ^^^ b) % 2 + (a &&& b) % 2 := by
        clear d1 d2 d3 i ih o1 o2 o3
        rcases Nat.mod_two_eq_zero_or_one a with ha | ha <;> rcases Nat.mod_two_eq_zero_or_one b with hb | hb <;> rw [ha, hb] at m1 m2 m3 <;> (first | lia | omega)
      clear m1 m2 m3 o1 o2 o3 ih
      (first | lia | omega)
theorem bitXor_nat {a b : Int} (ha : 0 ≤ a) (hb : 0 ≤ b) : Builtin.bitXor a b = ((a.toNat ^^^ b.toNat : Nat) : Int) := by
  unfold Builtin.bitXor
  rw [bitOr_nat ha hb, bitAnd_nat ha hb, or_split]
  (first | lia | omega)
theorem mulOk {a b : Int} (h : a.natAbs < 2 ^ 64 ∨ b.natAbs < 2 ^ 64) : IntMulOk a b := by
  rcases h with h | h
  · exact .of_left (intBits_le_64 (by (first | lia | omega)) (by (first | lia | omega)))
  · exact .of_right (intBits_le_64 (by (first | lia | omega)) (by (first | lia | omega)))
theorem fdiv_pos {a b : Int} (h : 0 < b) : a.fdiv b = a / b := Int.fdiv_eq_ediv_of_nonneg a (by (first | lia | omega))
theorem fmod_pos {a b : Int} (h : 0 < b) : a.fmod b = a % b := Int.fmod_eq_emod_of_nonneg a (by (first | lia | omega))
theorem pow_pos' (n : Nat) : (0 : Int) < 2 ^ n := Int.pow_pos (by decide)
theorem isList_of {hh : Heap} {a : Addr} {arr : Array Value} {n : Nat} (e : hh.get? a = some { cls := .type "list", data := .seq arr n }) : hh.IsList a arr := ⟨_, e, rfl, n, rfl⟩
theorem isTuple_of {hh : Heap} {a : Addr} {arr : Array Value} {n : Nat} (e : hh.get? a = some { cls := .type "tuple", data := .seq arr n }) : hh.IsTuple a arr := ⟨_, e, rfl, n, rfl⟩
theorem binop_ok {op : Operator} {x y : V} {vx vy : Value} (R0 : Room A 0) (hr : HR w B ρ h s) (rx : RV ρ x vx) (ry : RV ρ y vy) (q : wpBin op x y h Q) : Wp w B A (binaryOp op vx vy) ρ s Q := by
  cases op <;> first | exact q.elim | skip
  · cases x <;> cases y <;> first | exact q.elim | skip
    · obtain ⟨t, rfl⟩ := rx; obtain ⟨u, rfl⟩ := ry
      exact P.add_int (PE.val hr q ⟨_, rfl⟩)
    · obtain ⟨z1, t, rfl⟩ := rx; obtain ⟨z2, u, rfl⟩ := ry
      obtain ⟨q1, q2⟩ := q
      refine KBy.add_bytes (by simpa using q1) fun t' k => PE.val hr q2 ⟨by simpa using q1, t', by simp⟩
    · rename_i i j
      simp only [wpBin] at q
      cases e1 : h[i]? with
      | none => rw [e1] at q; exact q.elim
      | some o1 =>
        rw [e1] at q
        cases o1 <;> first | exact q.elim | skip
        cases e2 : h[j]? with
        | none => rw [e2] at q; exact q.elim
        | some o2 =>
          rw [e2] at q
          cases o2 <;> first | exact q.elim | skip
          refine hide fun gp gg => ?_; obtain ⟨p1, hp1, z1, a1, n1, g1, l1⟩ := hr.at e1; refine gg ?_; clear gg gp
          refine hide fun gp gg => ?_; obtain ⟨p2, hp2, z2, a2, n2, g2, l2⟩ := hr.at e2; refine gg ?_; clear gg gp
          obtain ⟨_, hq1, rfl⟩ := rx; obtain ⟨_, hq2, rfl⟩ := ry
          rw [hp1] at hq1; cases hq1
          rw [hp2] at hq2; cases hq2
          have hl1 := l1.length; have hl2 := l2.length
          simp only [Array.length_toList] at hl1 hl2
          refine P.add_list g1 g2 (PE.push hr q.2 ⟨rfl, _, _, Heap.get?_push_size _ rfl, ?_⟩) (by rw [sizeLine_eq]; (first | lia | omega))
          rw [Array.toList_append]
          exact (l1.append l2).mono (sub_push _)
  · cases x <;> first | exact q.elim | skip
    cases y <;> first | exact q.elim | skip
    obtain ⟨t, rfl⟩ := rx; obtain ⟨u, rfl⟩ := ry
    exact P.sub_int (PE.val hr q ⟨_, rfl⟩)
  · cases x <;> first | exact q.elim | skip
    cases y <;> first | exact q.elim | skip
    obtain ⟨t, rfl⟩ := rx; obtain ⟨u, rfl⟩ := ry
    exact P.mul_int (PE.val hr q.2 ⟨_, rfl⟩) (mulOk q.1)
  · cases x <;> first | exact q.elim | skip
    cases y <;> first | exact q.elim | skip
    obtain ⟨t, rfl⟩ := rx; obtain ⟨u, rfl⟩ := ry
    exact mod_int' (by have := q.1; (first | lia | omega)) (by rw [fmod_pos q.1]; exact PE.val hr q.2 ⟨_, rfl⟩)
  · cases x <;> first | exact q.elim | skip
    cases y <;> first | exact q.elim | skip
    obtain ⟨t, rfl⟩ := rx; obtain ⟨u, rfl⟩ := ry
    exact lshift_int_small q.1.1 (by have := q.1.2.1; (first | lia | omega)) q.1.2.2 (PE.val hr q.2 ⟨_, rfl⟩)
  · cases x <;> first | exact q.elim | skip
    cases y <;> first | exact q.elim | skip
    obtain ⟨t, rfl⟩ := rx; obtain ⟨u, rfl⟩ := ry
    exact rshift_int q.1 (by rw [fdiv_pos (pow_pos' _)]; exact PE.val hr q.2 ⟨_, rfl⟩)
  · cases x <;> first | exact q.elim | skip
    cases y <;> first | exact q.elim | skip
    obtain ⟨t, rfl⟩ := rx; obtain ⟨u, rfl⟩ := ry
    exact or_int (by rw [bitOr_nat q.1.1 q.1.2]; exact PE.val hr q.2 ⟨_, rfl⟩)
  · cases x <;> first | exact q.elim | skip
    cases y <;> first | exact q.elim | skip
    obtain ⟨t, rfl⟩ := rx; obtain ⟨u, rfl⟩ := ry
    exact xor_int (by rw [bitXor_nat q.1.1 q.1.2]; exact PE.val hr q.2 ⟨_, rfl⟩)
  · cases x <;> first | exact q.elim | skip
    cases y <;> first | exact q.elim | skip
    obtain ⟨t, rfl⟩ := rx; obtain ⟨u, rfl⟩ := ry
    exact and_int (by rw [bitAnd_nat q.1.1 q.1.2]; exact PE.val hr q.2 ⟨_, rfl⟩)
  · cases x <;> first | exact q.elim | skip
    cases y <;> first | exact q.elim | skip
    obtain ⟨t, rfl⟩ := rx; obtain ⟨u, rfl⟩ := ry
    exact floordiv_int (by have := q.1.1; (first | lia | omega)) (by rw [fdiv_pos q.1.1]; exact PE.val hr q.2 ⟨_, rfl⟩) (.inl (PyProof.noPylong_small (by have := q.1; (first | lia | omega))))
end
end Mine
end
section
set_option backward.match.sparseCases false
set_option maxRecDepth 100000
namespace Mine
open PySem PySem.W PyProof.Rows PySem.SeqAt
section
variable {w : World} {B : Heap} {A : Around} {ρ ρ₁ : R} {h h₁ : H} {s s₁ : Shared} {Q Q₁ : K1}
theorem beqD {α : Type} [BEq α] [LawfulBEq α] [DecidableEq α] (a b : α) : (a == b) = decide (a = b) := by
  by_cases h : a = b <;> simp [h]
theorem eqAt_bytes (a : List UInt8) (t : Tok) (b : List UInt8) (u : Tok) : EqAt A s (.bytes a.toArray t) (.bytes b.toArray u) (decide (a = b)) := fun prog w E Q h => by
  unfold eqBool
  refine wpAny_holding ?_
  refine wpAny_ite_split (fun hab => ?_) (fun _ => ?_)
  · have e := eq_of_beq hab
    have e1 : a = b := by simpa using (Value.bytes.inj e).1
    rw [decide_eq_true e1] at h
    exact wpAny_bind (wpAny_rule (wpAny_pure h))
  · refine wpAny_bind ?_
    show wpAny _ A (compareOp .Eq _ _) _ _ _
    refine eq_bytes (wpAny_truthy_bool ?_)
    rw [beqD]; exact h
theorem eqAt_none : EqAt A s .none .none true := fun prog w E Q h => by
  unfold eqBool
  refine wpAny_holding ?_
  refine wpAny_ite_split (fun _ => wpAny_bind (wpAny_rule (wpAny_pure h))) (fun hn => absurd (beq_self_eq_true _) hn)
theorem N.beq_s (a b : N) : (a.s == b.s) = decide (a = b) := by
  by_cases h : a = b
  · subst h; simp
  · rw [decide_eq_false h]; exact beq_eq_false_iff_ne.mpr fun e => h (N.s_inj e)
theorem eqAt_of {x y : V} {b : Bool} {vx vy : Value} (e : eqV x y = some b) (rx : RV ρ x vx) (ry : RV ρ y vy) : EqAt A s vx vy b := by
  cases x <;> cases y <;> (first | (cases e; done) | (simp only [eqV, Option.some.injEq] at e; subst e))
  · rw [rx, ry]; exact eqAt_none
  · rw [rx, ry]; have := @EqAt.bool_bool A s; rename_i p q; rw [← beqD]; exact this p q
  · obtain ⟨t, rfl⟩ := rx; obtain ⟨u, rfl⟩ := ry; have := @EqAt.int_int A s; rename_i p q; rw [← beqD]; exact this p t q u
  · obtain ⟨t, rfl⟩ := rx; obtain ⟨u, rfl⟩ := ry; have := @EqAt.str_str A s; rename_i p q; rw [← N.beq_s]; exact this _ t _ u
  · obtain ⟨_, t, rfl⟩ := rx; obtain ⟨_, u, rfl⟩ := ry; exact eqAt_bytes _ _ _ _
theorem eqVs_spec : ∀ {a b : List V} {r : Bool}, eqVs a b = some r → a.length = b.length ∧ (∀ (j : Nat) x y, a[j]? = some x → b[j]? = some y → ∃ c, eqV x y = some c) ∧
    r = (List.range a.length).all fun j => (eqV (a.getD j .none) (b.getD j .none)).getD false
  | [], [], r, e => by cases e; exact ⟨rfl, fun j x y h => (by simp at h), rfl⟩
  | x :: a, y :: b, r, e => by
    unfold eqVs at e
    cases h1 : eqV x y with
    | none => rw [h1] at e; cases e
    | some c =>
      cases h2 : eqVs a b with
      | none => rw [h1, h2] at e; cases e
      | some d =>
        rw [h1, h2] at e
        cases e
        obtain ⟨i1, i2, i3⟩ := eqVs_spec h2
        refine ⟨by simp [i1], fun j p q hp hq => ?_, ?_⟩
        · cases j with
          | zero => simp at hp hq; subst hp hq; exact ⟨c, h1⟩
          | succ j => exact i2 j p q (by simpa using hp) (by simpa using hq)
        · rw [List.length_cons, List.range_succ_eq_map, List.all_cons, List.all_map, i3]
          simp [h1, Function.comp_def]
  | [], _ :: _, _, e => by cases e
  | _ :: _, [], _, e => by cases e
theorem tup_eqAt {a b : List V} {r : Bool} {xs ys : Array Value} (e : eqVs a b = some r) (h1 : RVs ρ a xs.toList) (h2 : RVs ρ b ys.toList) :
    (∀ j (k1 : j < xs.size) (k2 : j < ys.size), EqAt A s xs[j] ys[j] ((eqV (a.getD j .none) (b.getD j .none)).getD false)) ∧ xs.size = ys.size ∧
    ((List.range (min xs.size ys.size)).all fun j => (eqV (a.getD j .none) (b.getD j .none)).getD false) = r := by
  obtain ⟨i1, i2, i3⟩ := eqVs_spec e
  have l1 := h1.length; have l2 := h2.length
  simp only [Array.length_toList] at l1 l2
  refine ⟨fun j k1 k2 => ?_, by (first | lia | omega), by rw [i3]; congr 2; (first | lia | omega)⟩
  have ha : a[j]? = some (a[j]'(by (first | lia | omega))) := List.getElem?_eq_getElem _
  have hb : b[j]? = some (b[j]'(by (first | lia | omega))) := List.getElem?_eq_getElem _
  obtain ⟨c, hc⟩ := i2 j _ _ ha hb
  obtain ⟨v1, g1, r1⟩ := h1.get ha
  obtain ⟨v2, g2, r2⟩ := h2.get hb
  have e1 : v1 = xs[j] := by simpa [k1] using g1.symm
  have e2 : v2 = ys[j] := by simpa [k2] using g2.symm
  subst e1 e2
  rw [List.getD_eq_getElem?_getD, List.getD_eq_getElem?_getD, ha, hb]
  simp only [Option.getD_some, hc]
  exact eqAt_of hc r1 r2
theorem eqO_ok {x y : V} {r : Bool} {vx vy : Value} (R0 : Room A 0) (hr : HR w B ρ h s) (rx : RV ρ x vx) (ry : RV ρ y vy) (e : eqO h x y = some r) (q : Q (.bool r) h) : Wp w B A (compareOp .Eq vx vy) ρ s Q := by
  have hu := R0.units
  unfold eqO at e
  cases x <;> cases y <;> (first | (cases e; done) | (simp only [eqV, Option.some.injEq] at e; subst e) | skip)
  · rw [rx, ry]; exact EqNone.eq_none_none (PE.val' hr q rfl)
  · rw [rx, ry]; refine eq_bool (PE.val' hr q ?_); simp [RV, beqD]
  · obtain ⟨t, rfl⟩ := rx; obtain ⟨u, rfl⟩ := ry; refine P.eq_int (PE.val' hr q ?_); simp [RV, beqD]
  · obtain ⟨t, rfl⟩ := rx; obtain ⟨u, rfl⟩ := ry; refine P.eq_str (PE.val' hr q ?_); rw [str_beq, N.beq_s]; rfl
  · obtain ⟨_, t, rfl⟩ := rx; obtain ⟨_, u, rfl⟩ := ry; refine eq_bytes (PE.val' hr q ?_); simp [RV, beqD]
  · rename_i i j
    dsimp only at e
    cases e1 : h[i]? with
    | none => rw [e1] at e; cases e
    | some o1 =>
      rw [e1] at e
      cases o1 <;> (try cases e)
      · cases e2 : h[j]? with
        | none => rw [e2] at e; cases e
        | some o2 =>
          rw [e2] at e
          cases o2 <;> (try cases e)
          rename_i a b
          cases b <;> (try cases e)
          refine hide fun gp gg => ?_; obtain ⟨p1, hp1, z1, a1, n1, g1, l1⟩ := hr.at e1; refine gg ?_; clear gg gp
          refine hide fun gp gg => ?_; obtain ⟨p2, hp2, z2, a2, n2, g2, l2⟩ := hr.at e2; refine gg ?_; clear gg gp
          obtain ⟨_, hq1, rfl⟩ := rx; obtain ⟨_, hq2, rfl⟩ := ry
          rw [hp1] at hq1; cases hq1
          rw [hp2] at hq2; cases hq2
          have hl1 := l1.length; have hl2 := l2.length
          simp only [Array.length_toList, List.length_nil] at hl1 hl2
          by_cases hz : a1.size = 0
          · refine eq_listAt (e := fun _ => true) (isList_of g1) (isList_of g2) (by (first | lia | omega)) (by (first | lia | omega)) (fun j k1 _ => by (first | lia | omega)) (PE.val' hr q ?_)
            simp [RV, hz, hl1]
          · refine eq_list_lengthsAt (isList_of g1) (isList_of g2) (by simp; (first | lia | omega)) (by (first | lia | omega)) (PE.val' hr q ?_)
            simp [RV, hz, hl1]
      · cases e2 : h[j]? with
        | none => rw [e2] at e; cases e
        | some o2 =>
          rw [e2] at e
          cases o2 <;> (try cases e)
          dsimp only at e
          refine hide fun gp gg => ?_; obtain ⟨p1, hp1, z1, a1, n1, g1, l1⟩ := hr.at e1; refine gg ?_; clear gg gp
          refine hide fun gp gg => ?_; obtain ⟨p2, hp2, z2, a2, n2, g2, l2⟩ := hr.at e2; refine gg ?_; clear gg gp
          obtain ⟨_, hq1, rfl⟩ := rx; obtain ⟨_, hq2, rfl⟩ := ry
          rw [hp1] at hq1; cases hq1
          rw [hp2] at hq2; cases hq2
          obtain ⟨k1, k2, k3⟩ := tup_eqAt (A := A.in1) (s := s) e l1 l2
          refine eq_tupleAt (isTuple_of g1) (isTuple_of g2) (by (first | lia | omega)) k1 (PE.val' hr q ?_)
          rw [k3, beq_iff_eq.mpr k2, Bool.and_true]; rfl
end
end Mine
end
section
set_option backward.match.sparseCases false
set_option maxRecDepth 100000
namespace Mine
open PySem PySem.W PyProof.Rows PySem.SeqAt
section
variable {w : World} {B : Heap} {A : Around} {ρ ρ₁ : R} {h h₁ : H} {s s₁ : Shared} {Q Q₁ : K1}
theorem neO_ok {x y : V} {r : Bool} {vx vy : Value} (R0 : Room A 0) (hr : HR w B ρ h s) (rx : RV ρ x vx) (ry : RV ρ y vy) (e : eqO h x y = some r) (q : Q (.bool (!r)) h) : Wp w B A (compareOp .NotEq vx vy) ρ s Q := by
  have hu := R0.units
  unfold eqO at e
  cases x <;> cases y <;> (first | (cases e; done) | (simp only [eqV, Option.some.injEq] at e; subst e) | skip)
  · rw [rx, ry]; exact EqNone.ne_none_none (PE.val' hr q rfl)
  · rw [rx, ry]; refine ne_bool (PE.val' hr q ?_); simp [RV, bne, beqD]
  · obtain ⟨t, rfl⟩ := rx; obtain ⟨u, rfl⟩ := ry; refine P.ne_int (PE.val' hr q ?_); simp [RV, bne, beqD]
  · obtain ⟨t, rfl⟩ := rx; obtain ⟨u, rfl⟩ := ry; refine P.ne_str (PE.val' hr q ?_); rw [bne, str_beq, N.beq_s]; rfl
  · obtain ⟨_, t, rfl⟩ := rx; obtain ⟨_, u, rfl⟩ := ry; refine ne_bytes (PE.val' hr q ?_); simp [RV, bne, beqD]
  · rename_i i j
    dsimp only at e
    cases e1 : h[i]? with
    | none => rw [e1] at e; cases e
    | some o1 =>
      rw [e1] at e
      cases o1 <;> (try cases e)
      · cases e2 : h[j]? with
        | none => rw [e2] at e; cases e
        | some o2 =>
          rw [e2] at e
          cases o2 <;> (try cases e)
          rename_i a b
          cases b <;> (try cases e)
          refine hide fun gp gg => ?_; obtain ⟨p1, hp1, z1, a1, n1, g1, l1⟩ := hr.at e1; refine gg ?_; clear gg gp
          refine hide fun gp gg => ?_; obtain ⟨p2, hp2, z2, a2, n2, g2, l2⟩ := hr.at e2; refine gg ?_; clear gg gp
          obtain ⟨_, hq1, rfl⟩ := rx; obtain ⟨_, hq2, rfl⟩ := ry
          rw [hp1] at hq1; cases hq1
          rw [hp2] at hq2; cases hq2
          have hl1 := l1.length; have hl2 := l2.length
          simp only [Array.length_toList, List.length_nil] at hl1 hl2
          by_cases hz : a1.size = 0
          · refine RcNeAt.lists (e := fun _ => true) (isList_of g1) (isList_of g2) (by (first | lia | omega)) (by (first | lia | omega)) (fun j k1 _ => by (first | lia | omega)) _ _ _ _ (PE.val' hr q ?_)
            simp [RV, hz, hl1]
          · refine RcNeAt.lists_lengths (isList_of g1) (isList_of g2) (by simp; (first | lia | omega)) (by (first | lia | omega)) _ _ _ _ (PE.val' hr q ?_)
            simp [RV, hz, hl1]
      · cases e2 : h[j]? with
        | none => rw [e2] at e; cases e
        | some o2 =>
          rw [e2] at e
          cases o2 <;> (try cases e)
          dsimp only at e
          refine hide fun gp gg => ?_; obtain ⟨p1, hp1, z1, a1, n1, g1, l1⟩ := hr.at e1; refine gg ?_; clear gg gp
          refine hide fun gp gg => ?_; obtain ⟨p2, hp2, z2, a2, n2, g2, l2⟩ := hr.at e2; refine gg ?_; clear gg gp
          obtain ⟨_, hq1, rfl⟩ := rx; obtain ⟨_, hq2, rfl⟩ := ry
          rw [hp1] at hq1; cases hq1
          rw [hp2] at hq2; cases hq2
          obtain ⟨k1, k2, k3⟩ := tup_eqAt (A := A.in1) (s := s) e l1 l2
          refine RcNeAt.tuples (isTuple_of g1) (isTuple_of g2) (by (first | lia | omega)) k1 _ _ _ _ (PE.val' hr q ?_)
          rw [k3, beq_iff_eq.mpr k2, Bool.and_true]; rfl
/-- the tables that stand at the top -/
structure Tabs (B : Heap) : Prop where
  sizes : B.get? 75 = some { cls := .type "tuple", data := .seq #[.int 1 284, .int 2 285, .int 4 286, .int 8 287] }
  kinds : B.get? 167 = some { cls := .type "list", data := .seq #[.str (N.s .initial) 417, .str (N.s .zero) 418, .str (N.s .handshake) 419, .str (N.s .retry) 420] }
/-- what seqOf finds, in the machine -/
theorem seq_at (tb : Tabs B) (hr : HR w B ρ h s) {y : V} {vy : Value} (ry : RV ρ y vy) {l : List V} (e : seqOf h y = some l) :
    ∃ a arr, vy = .ref a ∧ RVs ρ l arr.toList ∧ (s.heap.IsList a arr ∨ s.heap.IsTuple a arr) := by
  cases y <;> (try cases e)
  · rename_i k
    obtain ⟨p, hp, rfl⟩ := ry
    unfold seqOf at e
    cases e1 : h[k]? with
    | none => simp only [e1] at e; cases e
    | some o =>
      simp only [e1] at e
      cases o <;> (try cases e)
      · refine hide fun gp gg => ?_; obtain ⟨p', hp', z, a, n, g, r⟩ := hr.at e1; refine gg ?_; clear gg gp
        rw [hp] at hp'; cases hp'
        exact ⟨_, a, rfl, r, .inl (isList_of g)⟩
      · refine hide fun gp gg => ?_; obtain ⟨p', hp', z, a, n, g, r⟩ := hr.at e1; refine gg ?_; clear gg gp
        rw [hp] at hp'; cases hp'
        exact ⟨_, a, rfl, r, .inr (isTuple_of g)⟩
  · exact ⟨75, #[.int 1 284, .int 2 285, .int 4 286, .int 8 287], ry, (show (∃ t, _) ∧ (∃ t, _) ∧ (∃ t, _) ∧ (∃ t, _) ∧ True from ⟨⟨_, rfl⟩, ⟨_, rfl⟩, ⟨_, rfl⟩, ⟨_, rfl⟩, trivial⟩), .inr (isTuple_of (hr.base _ _ tb.sizes))⟩
  · exact ⟨167, #[.str (N.s .initial) 417, .str (N.s .zero) 418, .str (N.s .handshake) 419, .str (N.s .retry) 420], ry, (show (∃ t, _) ∧ (∃ t, _) ∧ (∃ t, _) ∧ (∃ t, _) ∧ True from ⟨⟨_, rfl⟩, ⟨_, rfl⟩, ⟨_, rfl⟩, ⟨_, rfl⟩, trivial⟩), .inl (isList_of (hr.base _ _ tb.kinds))⟩
noncomputable def isI (a : Int) : Value → Bool
  | .int i _ => i == a
  | _ => false
theorem ints_any {a : Int} : ∀ {l : List V} {vs : List Value}, allInt l = true → RVs ρ l vs → vs.any (isI a) = l.contains (.int a) ∧ ∀ v ∈ vs, ∃ i t, v = .int i t
  | [], [], _, _ => ⟨rfl, fun _ h => nomatch h⟩
  | x :: l, v :: vs, e, r => by
    cases x <;> (try cases e)
    obtain ⟨⟨t, rfl⟩, r2⟩ := r
    obtain ⟨i1, i2⟩ := ints_any (a := a) (l := l) e r2
    rename_i i
    refine ⟨?_, fun v hv => ?_⟩
    · rw [List.any_cons, i1, List.contains_cons]
      congr 1
      simp only [isI, beqD, V.int.injEq]
      exact decide_eq_decide.mpr eq_comm
    · rcases List.mem_cons.mp hv with rfl | hv
      · exact ⟨_, _, rfl⟩
      · exact i2 v hv
  | [], _ :: _, _, r => r.elim
  | _ :: _, [], _, r => r.elim
theorem inV_ok (tb : Tabs B) {x y : V} {r : Bool} {vx vy : Value} (hr : HR w B ρ h s) (rx : RV ρ x vx) (ry : RV ρ y vy) (e : inV h x y = some r) :
    (Q (.bool r) h → Wp w B A (compareOp .In vx vy) ρ s Q) ∧ (Q (.bool (!r)) h → Wp w B A (compareOp .NotIn vx vy) ρ s Q) := by
  cases x <;> (try cases e)
  rename_i a
  obtain ⟨t, rfl⟩ := rx
  unfold inV at e
  cases e1 : seqOf h y with
  | none => simp only [e1] at e; cases e
  | some l =>
    simp only [e1] at e
    by_cases ha : allInt l = true
    · rw [if_pos ha] at e; cases e
      refine hide fun gp gg => ?_; obtain ⟨b, arr, rfl, hl, ht⟩ := seq_at tb hr ry e1; refine gg ?_; clear gg gp
      obtain ⟨i1, i2⟩ := ints_any (a := a) ha hl
      have he : ∀ y, y ∈ arr → EqAt A.in1 s y (.int a t) (isI a y) := fun y hy => by
        obtain ⟨i, u, rfl⟩ := i2 y (Array.mem_toList_iff.mpr hy)
        exact EqAt.int_int i u a t
      have ea : arr.any (isI a) = l.contains (.int a) := by rw [← i1, Array.any_toList]
      rcases ht with ht | ht
      · exact ⟨fun q => in_listAt (isI a) ht he (PE.val' hr q (by rw [ea]; rfl)), fun q => notIn_listAt (isI a) ht he (PE.val' hr q (by rw [ea]; rfl))⟩
      · exact ⟨fun q => in_tupleAt (isI a) ht he (PE.val' hr q (by rw [ea]; rfl)), fun q => notIn_tupleAt (isI a) ht he (PE.val' hr q (by rw [ea]; rfl))⟩
    · rw [if_neg ha] at e; cases e
theorem isNone_ok {x : V} {vx : Value} (hr : HR w B ρ h s) (rx : RV ρ x vx) :
    (Q (.bool (decide (x = .none))) h → Wp w B A (compareOp .Is vx .none) ρ s Q) ∧ (Q (.bool (!decide (x = .none))) h → Wp w B A (compareOp .IsNot vx .none) ρ s Q) := by
  have key : plainIs vx .none = true ∧ (vx == .none) = decide (x = .none) := by
    cases x
    · rw [rx]; exact ⟨rfl, rfl⟩
    · rw [rx]; exact ⟨rfl, rfl⟩
    · obtain ⟨t, rfl⟩ := rx; exact ⟨rfl, rfl⟩
    · obtain ⟨t, rfl⟩ := rx; exact ⟨rfl, rfl⟩
    · obtain ⟨_, t, rfl⟩ := rx; exact ⟨rfl, rfl⟩
    · obtain ⟨p, _, rfl⟩ := rx; exact ⟨rfl, rfl⟩
    · rw [rx]; exact ⟨rfl, rfl⟩
    · rw [rx]; exact ⟨rfl, rfl⟩
  exact ⟨fun q => wpAny_is_plain key.1 (PE.val' hr q (by rw [key.2]; rfl)), fun q => wpAny_isNot_plain key.1 (PE.val' hr q (by rw [key.2]; rfl))⟩
theorem cmp_ok (tb : Tabs B) {op : CmpOp} {x y : V} {r : Bool} {vx vy : Value} (R0 : Room A 0) (hr : HR w B ρ h s) (rx : RV ρ x vx) (ry : RV ρ y vy) (e : cmpV op h x y = some r) (q : Q (.bool r) h) : Wp w B A (compareOp op vx vy) ρ s Q := by
  cases op
  · exact eqO_ok R0 hr rx ry e q
  · obtain ⟨r', e1, rfl⟩ := Option.map_eq_some_iff.mp e
    exact neO_ok R0 hr rx ry e1 q
  · cases x <;> (first | (cases e; done) | skip)
    cases y <;> (first | (cases e; done) | skip)
    simp only [cmpV, Option.some.injEq] at e; subst e
    obtain ⟨t, rfl⟩ := rx; obtain ⟨u, rfl⟩ := ry; exact P.lt_int (PE.val' hr q rfl)
  · cases x <;> (first | (cases e; done) | skip)
    cases y <;> (first | (cases e; done) | skip)
    simp only [cmpV, Option.some.injEq] at e; subst e
    obtain ⟨t, rfl⟩ := rx; obtain ⟨u, rfl⟩ := ry; exact P.le_int (PE.val' hr q rfl)
  · cases x <;> (first | (cases e; done) | skip)
    cases y <;> (first | (cases e; done) | skip)
    simp only [cmpV, Option.some.injEq] at e; subst e
    obtain ⟨t, rfl⟩ := rx; obtain ⟨u, rfl⟩ := ry; exact P.gt_int (PE.val' hr q rfl)
  · cases x <;> (first | (cases e; done) | skip)
    cases y <;> (first | (cases e; done) | skip)
    simp only [cmpV, Option.some.injEq] at e; subst e
    obtain ⟨t, rfl⟩ := rx; obtain ⟨u, rfl⟩ := ry; exact P.ge_int (PE.val' hr q rfl)
  · cases y <;> (first | (cases e; done) | skip)
    simp only [cmpV, Option.some.injEq] at e; subst e
    rw [ry]; exact (isNone_ok hr rx).1 q
  · cases y <;> (first | (cases e; done) | skip)
    simp only [cmpV, Option.some.injEq] at e; subst e
    rw [ry]; exact (isNone_ok hr rx).2 q
  · exact (inV_ok tb hr rx ry e).1 q
  · obtain ⟨r', e1, rfl⟩ := Option.map_eq_some_iff.mp e
    exact (inV_ok tb hr rx ry e1).2 q
end
end Mine
end
section
set_option backward.match.sparseCases false
set_option maxRecDepth 100000
namespace Mine
open PySem PySem.W PyProof.Rows PySem.SeqAt
section
variable {w : World} {B : Heap} {A : Around} {ρ ρ₁ : R} {h h₁ : H} {s s₁ : Shared} {Q Q₁ : K1}
theorem HR.val (hr : HR w B ρ h s) {k : Nat} {o : O} {v : Value} (e : h[k]? = some o) (rv : RV ρ (.obj k) v) : ∃ p, ρ[k]? = some p ∧ v = .ref p.1 ∧ RO w ρ s.heap p o := by
  obtain ⟨p, hp, rfl⟩ := rv
  obtain ⟨p', hp', r⟩ := hr.at e
  rw [hp] at hp'; cases hp'
  exact ⟨p, hp, rfl, r⟩
theorem RDs.valueAt {n : N} {x : V} : ∀ {kv : List (N × V)} {kvs : List (Str × Value)}, RDs ρ kv kvs → getN n kv = some x → ∃ v, valueAt kvs n.s = some v ∧ RV ρ x v
  | [], [], _, e => nomatch e
  | (m, y) :: kv, c :: kvs, r, e => by
    unfold getN at e
    unfold PySem.valueAt
    rw [List.find?_cons]
    obtain ⟨⟨r1, r2⟩, r3⟩ := r
    dsimp only at e
    by_cases hm : m = n
    · subst hm
      rw [if_pos rfl] at e; cases e
      rw [decide_eq_true r1]
      exact ⟨_, rfl, r2⟩
    · rw [if_neg hm] at e
      rw [decide_eq_false (fun e => hm (N.s_inj (r1.symm.trans e)))]
      exact RDs.valueAt r3 e
  | [], _ :: _, r, _ => r.elim
  | _ :: _, [], r, _ => r.elim
theorem RDs.any {n : N} : ∀ {kv : List (N × V)} {kvs : List (Str × Value)}, RDs ρ kv kvs → (kvs.any fun c => decide (c.1 = n.s)) = kv.any fun p => decide (p.1 = n)
  | [], [], _ => rfl
  | (m, y) :: kv, c :: kvs, r => by
    rw [List.any_cons, List.any_cons, RDs.any r.2]
    congr 1
    exact decide_eq_decide.mpr ⟨fun e => N.s_inj (r.1.1.symm.trans e), fun e => r.1.1.trans (congrArg _ e)⟩
  | [], _ :: _, r => r.elim
  | _ :: _, [], r => r.elim
theorem RDs.map {n : N} {x : V} {v : Value} (rv : RV ρ x v) : ∀ {kv : List (N × V)} {kvs : List (Str × Value)}, RDs ρ kv kvs →
    RDs ρ (kv.map fun p => if p.1 = n then (p.1, x) else p) (kvs.map fun c => if c.1 = n.s then (c.1, v) else c)
  | [], [], _ => trivial
  | (m, y) :: kv, c :: kvs, r => by
    rw [List.map_cons, List.map_cons]
    have e : (c.1 = n.s) ↔ m = n := ⟨fun e => N.s_inj (r.1.1.symm.trans e), fun e => r.1.1.trans (congrArg _ e)⟩
    by_cases hm : m = n
    · rw [if_pos hm, if_pos (e.mpr hm)]
      exact ⟨⟨r.1.1, rv⟩, RDs.map rv r.2⟩
    · rw [if_neg hm, if_neg (fun h => hm (e.mp h))]
      exact ⟨r.1, RDs.map rv r.2⟩
  | [], _ :: _, r => r.elim
  | _ :: _, [], r => r.elim
theorem RDs.append : ∀ {kv kw : List (N × V)} {kvs kws : List (Str × Value)}, RDs ρ kv kvs → RDs ρ kw kws → RDs ρ (kv ++ kw) (kvs ++ kws)
  | [], _, [], _, _, r => r
  | (_, _) :: _, _, _ :: _, _, r, r' => ⟨r.1, RDs.append r.2 r'⟩
  | [], _, _ :: _, _, r, _ => r.elim
  | _ :: _, _, [], _, r, _ => r.elim
theorem RDs.stored {n : N} {x : V} {v : Value} {kv : List (N × V)} {kvs : List (Str × Value)} (r : RDs ρ kv kvs) (rv : RV ρ x v) : RDs ρ (putN' n x kv) (stored kvs n.s v) := by
  unfold putN' PySem.stored
  rw [r.any]
  by_cases h : (kv.any fun p => decide (p.1 = n)) = true
  · rw [if_pos h, if_pos h]; exact r.map rv
  · rw [if_neg h, if_neg h]; exact r.append ⟨⟨rfl, rv⟩, trivial⟩
theorem RDs.length : ∀ {kv : List (N × V)} {kvs : List (Str × Value)}, RDs ρ kv kvs → kv.length = kvs.length
  | [], [], _ => rfl
  | (_, _) :: _, _ :: _, r => congrArg (· + 1) (RDs.length r.2)
  | [], _ :: _, r => r.elim
  | _ :: _, [], r => r.elim
theorem item_list {a : Addr} {arr : Array Value} {l : List V} {i : Int} {u : Tok} (hr : HR w B ρ h s) (hl : s.heap.IsList a arr) (rl : RVs ρ l arr.toList) (h0 : 0 ≤ i) (h1 : i < l.length)
    (hz : i < 1000000) (q : Q (l.getD i.toNat .none) h) : ItemOn (model pw w) A no (.ref a) (.int i u) (PE w B ρ s Q) s := by
  have hi : i.toNat < l.length := by (first | lia | omega)
  obtain ⟨v, g, rv⟩ := rl.get (List.getElem?_eq_getElem hi)
  rw [List.getD_eq_getElem?_getD, List.getElem?_eq_getElem hi] at q
  exact ⟨"list", _, slot_list_getitem.lookup, hl.typeIs, wpAny_getItem_list hl h0 (by (first | lia | omega)) (by simpa using g) (PE.val' hr q rv)⟩
theorem item_tuple {a : Addr} {arr : Array Value} {l : List V} {i : Int} {u : Tok} (hr : HR w B ρ h s) (hl : s.heap.IsTuple a arr) (rl : RVs ρ l arr.toList) (h0 : -(l.length : Int) ≤ i) (h1 : i < l.length)
    (hz : -1000000 < i) (hz' : i < 1000000) (q : Q (l.getD (if i < 0 then i + l.length else i).toNat .none) h) : ItemOn (model pw w) A no (.ref a) (.int i u) (PE w B ρ s Q) s := by
  have hi : (if i < 0 then i + l.length else i).toNat < l.length := by split <;> (first | lia | omega)
  have len := rl.length
  simp only [Array.length_toList] at len
  obtain ⟨v, g, rv⟩ := rl.get (List.getElem?_eq_getElem hi)
  rw [List.getD_eq_getElem?_getD, List.getElem?_eq_getElem hi] at q
  refine hide fun gp gg => ?_; obtain ⟨o, ho, hc, hd⟩ := hl; refine gg ?_; clear gg gp
  have hl' : IsTup s.heap a arr := ⟨o, ho, hc, hd⟩
  refine ⟨"tuple", _, slot_tuple_getitem.lookup, hl'.typeIs, getItem_tuple (j := (if i < 0 then i + l.length else i).toNat) hl' (by (first | lia | omega)) (by (first | lia | omega)) ?_ (by simpa using g) (PE.val' hr q rv)⟩
  unfold seqIndex?
  by_cases hn : i < 0
  · simp only [hn, if_true] at hi ⊢
    rw [← len]
    have : 0 ≤ i + (l.length : Int) := by (first | lia | omega)
    simp [this]; (first | lia | omega)
  · simp only [hn, if_false] at hi ⊢
    simp; (first | lia | omega)
theorem idx_ok (tb : Tabs B) {x y : V} {vx vy : Value} (hr : HR w B ρ h s) (rx : RV ρ x vx) (ry : RV ρ y vy) (q : wpIdx x y h Q) : ItemOn (model pw w) A no vx vy (PE w B ρ s Q) s := by
  unfold wpIdx at q
  cases x <;> (try exact q.elim)
  · cases y <;> (try exact q.elim)
    rename_i b i
    obtain ⟨hb, t, rfl⟩ := rx; obtain ⟨u, rfl⟩ := ry
    obtain ⟨⟨h0, h1⟩, q⟩ := q
    refine ⟨"bytes", _, FB.slot_bytes_getitem.lookup, typeIs_bytes _ _ _, ?_⟩
    have hl : (if i < 0 then i + b.length else i).toNat < b.length := by split <;> (first | lia | omega)
    refine getItem_gives (typeIs_bytes s _ t) (by decide) FB.slot_bytes_getitem FB.entry_bytes_getitem (FB.args_bytes_getitem_2 _ _) (gives_bytes_getitem _ i t u (b.getD (if i < 0 then i + b.length else i).toNat 0) ?_ ?_) (PE.val hr q ⟨_, rfl⟩)
    · simp only [Builtin.Bytes.fitsIndex, Bool.and_eq_true, decide_eq_true_eq]; (first | lia | omega)
    · have e : seqIndex? i b.toArray.size = some (if i < 0 then i + b.length else i).toNat := by
        unfold seqIndex?
        by_cases hn : i < 0
        · simp only [hn, if_true] at hl ⊢
          have : 0 ≤ i + (b.length : Int) := by (first | lia | omega)
          simp [this]; (first | lia | omega)
        · simp only [hn, if_false] at hl ⊢
          simp; (first | lia | omega)
      rw [e]; simp [hl]
  · rename_i k
    cases e : h[k]? with
    | none => simp only [e] at q
    | some o =>
      simp only [e] at q
      refine hide fun gp gg => ?_; obtain ⟨p, hp, rfl, ro⟩ := hr.val e rx; refine gg ?_; clear gg gp
      cases o <;> (try exact q.elim)
      · cases y <;> (try exact q.elim)
        obtain ⟨u, rfl⟩ := ry
        refine hide fun gp gg => ?_; obtain ⟨z, a, n, g, rl⟩ := ro; refine gg ?_; clear gg gp
        exact item_list hr (isList_of g) rl q.1.1 q.1.2.1 q.1.2.2 q.2
      · cases y <;> (try exact q.elim)
        obtain ⟨u, rfl⟩ := ry
        refine hide fun gp gg => ?_; obtain ⟨z, a, n, g, rl⟩ := ro; refine gg ?_; clear gg gp
        exact item_tuple hr (isTuple_of g) rl q.1.1 q.1.2.1 q.1.2.2.1 q.1.2.2.2 q.2
      · cases y <;> (try exact q.elim)
        obtain ⟨u, rfl⟩ := ry
        rename_i kv n
        cases eg : getN n kv with
        | none => simp only [eg] at q
        | some x =>
          simp only [eg] at q
          refine hide fun gp gg => ?_; obtain ⟨z, kvs, ob, g, id, rd⟩ := ro; refine gg ?_; clear gg gp
          obtain ⟨v, hv, rv⟩ := rd.valueAt eg
          have hm : s.heap.DictOf (strKind pw w) p.1 kvs := Heap.dictOf_iff.mpr ⟨ob, g, id⟩
          exact ⟨"dict", _, slot_dict_getitem.lookup, hm.mapOf.typeIs, wpAny_getItem_of (strKind_is _ _ _ _) hm.mapOf hv (PE.val hr q rv)⟩
  · cases y <;> (try exact q.elim)
    obtain ⟨u, rfl⟩ := ry
    refine hide fun gp gg => ?_; obtain ⟨a, arr, rfl, rl, ht⟩ := seq_at tb hr rx (l := sizesL) rfl; refine gg ?_; clear gg gp
    obtain ⟨⟨h0, h1⟩, q⟩ := q
    rename_i i
    have hn : ¬ i < 0 := by (first | lia | omega)
    have ea : a = 75 := Value.ref.inj (rx : Value.ref a = .ref 75)
    subst ea
    refine item_tuple hr ?_ rl (by simp [sizesL]; (first | lia | omega)) (by simpa [sizesL] using h1) (by (first | lia | omega)) (by (first | lia | omega)) (by rw [if_neg hn]; exact q)
    rcases ht with ht | ht
    · refine hide fun gp gg => ?_; obtain ⟨o, ho, hc, _⟩ := ht; refine gg ?_; clear gg gp
      rw [hr.base _ _ tb.sizes] at ho; cases ho; simp at hc
    · exact ht
  · cases y <;> (try exact q.elim)
    obtain ⟨u, rfl⟩ := ry
    refine hide fun gp gg => ?_; obtain ⟨a, arr, rfl, rl, ht⟩ := seq_at tb hr rx (l := kindsL) rfl; refine gg ?_; clear gg gp
    obtain ⟨⟨h0, h1⟩, q⟩ := q
    have ea : a = 167 := Value.ref.inj (rx : Value.ref a = .ref 167)
    subst ea
    refine item_list hr ?_ rl h0 (by simpa [kindsL] using h1) (by (first | lia | omega)) q
    rcases ht with ht | ht
    · exact ht
    · refine hide fun gp gg => ?_; obtain ⟨o, ho, hc, _⟩ := ht; refine gg ?_; clear gg gp
      rw [hr.base _ _ tb.kinds] at ho; cases ho; simp at hc
theorem len_ok {x : V} {vx : Value} (hr : HR w B ρ h s) (rx : RV ρ x vx) (q : wpLen x h Q) : Wp w B A (call (.builtin "len") [vx]) ρ s Q := by
  unfold wpLen at q
  cases x <;> (try exact q.elim)
  · obtain ⟨hb, t, rfl⟩ := rx
    exact len_bytes (by simp; (first | lia | omega)) (PE.val hr q ⟨s.toks + 1, by simp⟩)
  · rename_i k
    cases e : h[k]? with
    | none => simp only [e] at q
    | some o =>
      simp only [e] at q
      refine hide fun gp gg => ?_; obtain ⟨p, hp, rfl, ro⟩ := hr.val e rx; refine gg ?_; clear gg gp
      cases o <;> (try exact q.elim)
      · refine hide fun gp gg => ?_; obtain ⟨z, a, n, g, rl⟩ := ro; refine gg ?_; clear gg gp
        have len := rl.length
        simp only [Array.length_toList] at len
        exact len_list (isList_of g) (by (first | lia | omega)) (PE.val hr q.2 ⟨_, by rw [len]⟩)
      · refine hide fun gp gg => ?_; obtain ⟨z, a, n, g, rl⟩ := ro; refine gg ?_; clear gg gp
        have len := rl.length
        simp only [Array.length_toList] at len
        exact len_tuple (isTuple_of g) (by (first | lia | omega)) (PE.val hr q.2 ⟨_, by rw [len]⟩)
theorem abs_ok {i : Int} {t : Tok} (hr : HR w B ρ h s) (q : Q (.int i.natAbs) h) : Wp w B A (call (.builtin "abs") [.int i t]) ρ s Q := by
  refine call_abs_int fun u tk => PE.val hr q ⟨u, ?_⟩
  congr 1
  split <;> (first | lia | omega)
theorem toInt_ok {i : Int} {t : Tok} (hr : HR w B ρ h s) (q : Q (.int i) h) : Wp w B A (call (.type "int") [.int i t]) ρ s Q := call_int_int (PE.val' hr q ⟨_, rfl⟩)
theorem append_ok {k : Nat} {l : List V} {y : V} {vx vy : Value} (hr : HR w B ρ h s) (rx : RV ρ (.obj k) vx) (ry : RV ρ y vy) (e : h[k]? = some (.list l)) (hz : l.length < 1000)
    (q : Q .none (h.set k (.list (l ++ [y])))) : Wp w B A (call (.builtin "list.append") [vx, vy]) ρ s Q := by
  refine hide fun gp gg => ?_; obtain ⟨p, hp, rfl, z, a, n, g, rl⟩ := hr.val e rx; refine gg ?_; clear gg gp
  have len := rl.length
  simp only [Array.length_toList] at len
  refine wpAny_list_append_plain ⟨n, g⟩ (fun h' ⟨n', hp'⟩ hs => ?_) (by rw [sizeLine_eq]; (first | lia | omega))
  obtain ⟨a1, a2⟩ := hr.upd (tk := s.toks) (h' := h') e hp (fun _ _ => nofun) (fun b o hb _ eo => hs.extBut b o hb eo) (o' := .list (l ++ [y])) ⟨z, _, _, hp', by rw [Array.toList_push]; exact rl.append ⟨ry, trivial⟩⟩
  exact ⟨.none, _, _, q, rfl, a1, a2⟩
theorem pop_ok {k : Nat} {l : List V} {x : V} {vx : Value} {t : Tok} (hr : HR w B ρ h s) (rx : RV ρ (.obj k) vx) (e : h[k]? = some (.list (x :: l))) (hz : l.length < 1000)
    (q : Q x (h.set k (.list l))) : Wp w B A (call (.builtin "list.pop") [vx, .int 0 t]) ρ s Q := by
  refine hide fun gp gg => ?_; obtain ⟨p, hp, rfl, z, a, n, g, rl⟩ := hr.val e rx; refine gg ?_; clear gg gp
  obtain ⟨al⟩ := a
  cases al with
  | nil => exact rl.elim
  | cons v vs =>
    have len := rl.2.length
    refine call_meets PySem.F.slot_list_pop ⟨_, g, rfl⟩ PySem.F.entry_list_pop (PySem.F.args_list_pop_2 _ _) (PySem.MeetsSeq.list_pop_at p.1 _ n 0 t 0 v rfl (by simp [seqIndex?]) (by simp) (by rw [sizeLine_eq]; simp; (first | lia | omega))) ⟨g, ?_⟩
    have ke : (Array.mk (v :: vs)).eraseIdxIfInBounds 0 = Array.mk vs := kl_erase [] vs v
    have e' : (s.heap.update p.1 (Obj.mapSeq fun xs => xs.eraseIdxIfInBounds 0)).get? p.1 = some { cls := .type "list", data := .seq vs.toArray (n + 1) } := by
      rw [Heap.get?_update_self _ g (by simp only [Obj.mapSeq]; rfl)]
      simp only [Obj.mapSeq, ke]
      simp
    obtain ⟨a1, a2⟩ := hr.upd (tk := s.toks) (h' := s.heap.update p.1 (Obj.mapSeq fun xs => xs.eraseIdxIfInBounds 0)) e hp (fun _ _ => nofun) (fun b o hb _ eo => (Heap.SameBut.update ..).extBut b o hb eo) (o' := .list l) ⟨z, _, _, e', rl.2⟩
    exact ⟨x, _, _, q, rl.1.mono (fun _ _ e => e), a1, a2⟩
end
end Mine
end
section
set_option backward.match.sparseCases false
set_option maxRecDepth 100000
namespace Mine
open PySem PySem.W PyProof.Rows PySem.SeqAt
section
variable {w : World} {B : Heap} {A : Around} {ρ ρ₁ : R} {h h₁ : H} {s s₁ : Shared} {Q Q₁ : K1}
theorem clip_eq (n : Nat) (i : Int) : clipAt n i = clip n i := by
  unfold clipAt clip
  split
  · rw [Int.min_eq_left (by lia)]
    rcases Int.le_total 0 (i + n) with h | h
    · rw [Int.max_eq_right h]
    · rw [Int.max_eq_left h, Int.toNat_of_nonpos h]; rfl
  · rename_i hi
    have h0 : 0 ≤ i := Int.not_lt.mp hi
    rw [Int.max_eq_right (Int.le_min.mpr ⟨h0, Int.natCast_nonneg n⟩)]
    rcases Int.le_total i n with h | h
    · rw [Int.min_eq_left h, Nat.min_eq_left (Int.toNat_le.mpr h)]
    · rw [Int.min_eq_right h, Int.toNat_natCast, Nat.min_eq_right ((Int.le_toNat h0).mpr h)]
theorem picked_cut (b : List UInt8) (lo hi : Option Int) : KBy.picked b.toArray lo hi = (cut b lo hi).toArray := by
  rw [KBc.picked_eq]
  unfold cut
  have : (clipAt b.toArray.size) = clip b.length := by funext i; rw [clip_eq]; simp
  rw [this]
  simp
theorem cut_le (b : List UInt8) (lo hi : Option Int) : (cut b lo hi).length ≤ b.length := by
  unfold cut
  exact Nat.le_trans (List.length_take_le' _ _) (by rw [List.length_drop]; exact Nat.sub_le _ _)
theorem slc_ok {x : V} {lo hi : Option Int} {vx l u : Value} (hr : HR w B ρ h s) (rx : RV ρ x vx) (hl : IsPart l lo) (hu : IsPart u hi) {a : Addr} (ha : s.heap.IsSliceOf a l u .none)
    (q : wpSlc x lo hi h Q) : ItemOn (model pw w) A no vx (.ref a) (PE w B ρ s Q) s := by
  unfold wpSlc at q
  cases x <;> (try exact q.elim)
  · obtain ⟨hb, t, rfl⟩ := rx
    rename_i b
    refine ⟨"bytes", _, FB.slot_bytes_getitem.lookup, typeIs_bytes _ _ _, getItem_meets (typeIs_bytes _ _ _) (by decide) FB.slot_bytes_getitem FB.entry_bytes_getitem (FB.args_bytes_getitem_2 _ _) (KBc.meets_slice2 b.toArray t _ hl hu)
      ⟨ha, Nat.le_trans (KBc.size_picked_le b.toArray lo hi) (by rw [sizeLine_eq]; simpa using hb), fun t' k => PE.val hr q ⟨Nat.le_trans (cut_le b lo hi) hb, t', by rw [picked_cut]⟩⟩⟩
  · rename_i k
    cases e : h[k]? with
    | none => simp only [e] at q
    | some o =>
      simp only [e] at q
      refine hide fun gp gg => ?_; obtain ⟨p, hp, rfl, ro⟩ := hr.val e rx; refine gg ?_; clear gg gp
      cases o <;> (try exact q.elim)
      rename_i ob is
      cases lo <;> (try exact q.elim)
      cases hi <;> (try exact q.elim)
      rename_i i
      dsimp only at q
      refine hide fun gp gg => ?_; obtain ⟨z, g, arr, n, rfl, ri⟩ := ro; refine gg ?_; clear gg gp
      have hil : s.heap.IsList p.1 arr := isList_of g
      have len : ∀ {l : List Int} {vs : List Value}, RIs l vs → l.length = vs.length := by
        intro l; induction l with
        | nil => intro vs r; cases vs; rfl; exact r.elim
        | cons i l ih => intro vs r; cases vs; exact r.elim; exact congrArg (· + 1) (ih r.2)
      have hlen := len ri
      simp only [Array.length_toList] at hlen
      have tk : ∀ (n : Nat) {l : List Int} {vs : List Value}, RIs l vs → RVs (ρ ++ [(s.heap.objs.size, s.heap.objs.size)]) ((l.take n).map .int) (vs.take n) := by
        intro n
        induction n with
        | zero => intro l vs _; simp [RVs]
        | succ n ih => intro l vs r; cases l <;> cases vs <;> first | exact r.elim | trivial | exact ⟨r.1, ih r.2⟩
      have sp : slicePick arr .none (some i) .none = (arr.toList.take i.toNat).toArray := by
        by_cases hi : i ≤ arr.size
        · have := slicePick_upto arr i.toNat (by (first | lia | omega))
          rwa [Int.toNat_of_nonneg q.1.1] at this
        · have e1 : slicePick arr .none (some i) .none = slicePick arr .none (some (arr.size : Int)) .none := by
            unfold slicePick
            have : sliceBounds .none (some i) .none arr.size = sliceBounds .none (some (arr.size : Int)) .none arr.size := by
              unfold sliceBounds
              have h0 := q.1.1
              have n1 : ¬ i < 0 := by (first | lia | omega)
              have n2 : ¬ (arr.size : Int) < 0 := by (first | lia | omega)
              simp only [n1, n2, if_false, Option.getD_none, Int.zero_lt_one, gt_iff_lt, if_true]
              rw [show min i (arr.size : Int) = arr.size by (first | lia | omega), show min (arr.size : Int) (arr.size : Int) = arr.size by (first | lia | omega)]
            rw [this]
          rw [e1, slicePick_upto arr arr.size (Nat.le_refl _), List.take_of_length_le (by simp), List.take_of_length_le (by simp; (first | lia | omega))]
      refine ⟨"list", _, slot_list_getitem.lookup, hil.typeIs, wpAny_getItem_list_slice hil ha hl hu .none (by simp) (PE.push hr q.2 ⟨rfl, _, _, Heap.get?_push_size _ rfl, ?_⟩) (by rw [sizeLine_eq]; (first | lia | omega))⟩
      rw [sp]
      exact tk _ ri
end
end Mine
end
section
set_option maxRecDepth 100000
namespace Mine
open PySem PySem.W PyProof.Rows
/- ==== contexts whose stack holds no lender of memory ==== -/
noncomputable def lenders : List String := ["bytearray.__contains__", "bytearray.__mod__", "bytearray.__rmod__", "_struct.pack_into.held", "bytearray.find.held"] ++ Builtin.Bytes.decodersThatHold
noncomputable def ND : Code → Bool
  | .builtin id _ => !lenders.contains id
  | _ => true
noncomputable def NDs (l : List (Code × Pos)) : Prop := ∀ x ∈ l, ND x.1 = true
noncomputable def wX {α : Type} (M : Model) (A : Around) (t : Sem α) (Q : α → Shared → Prop) (s : Shared) : Prop :=
  ∀ Γ p, Γ.In A → ND Γ.code = true → NDs Γ.below → Sem.wp M Γ t (fun a _ s' => Q a s') (fun _ _ _ => False) p s
noncomputable def cX (M : Model) (A : Around) (c : Code) (R : Result → Shared → Prop) (s : Shared) : Prop :=
  ∀ Γ p, Γ.code = c → Γ.Below A → NDs Γ.below → wpCode M Γ R p s
section
variable {α β : Type} {M : Model} {A : Around} {s : Shared}
theorem wX.lift {t : Sem α} {Q : α → Shared → Prop} (h : wpAny M A t Q (fun _ _ => False) s) : wX M A t Q s := fun Γ p hi _ _ => h Γ p hi
theorem wX.pure {a : α} {Q : α → Shared → Prop} (h : Q a s) : wX M A (Pure.pure a) Q s := fun _ _ _ _ _ => h
theorem wX.mono {t : Sem α} {Q Q' : α → Shared → Prop} (h : wX M A t Q s) (k : ∀ a s', Q a s' → Q' a s') : wX M A t Q' s :=
  fun Γ p hi h1 h2 => Sem.wp_mono M Γ t (fun a _ s' => k a s') (fun _ _ _ e => e) p s (h Γ p hi h1 h2)
theorem wX.bind {m : Sem α} {f : α → Sem β} {Q : β → Shared → Prop} (h : wX M A m (fun a s' => wX M A (f a) Q s') s) : wX M A (m >>= f) Q s :=
  fun Γ p hi h1 h2 => by
    rw [Sem.wp_bind']
    exact Sem.wp_mono M Γ m (fun a p' s' k => k Γ p' hi h1 h2) (fun _ _ _ e => e) p s (h Γ p hi h1 h2)
theorem wX.seq {m : Sem α} {f : α → Sem β} {Q : β → Shared → Prop} {Q₁ : α → Shared → Prop} (h : wX M A m Q₁ s) (k : ∀ a s', Q₁ a s' → wX M A (f a) Q s') : wX M A (m >>= f) Q s := .bind (h.mono k)
theorem wX.holding {vs : List Value} {t : Sem α} {Q : α → Shared → Prop} (h : wX M A t Q s) : wX M A (PySem.holding vs t) Q s :=
  fun Γ p hi h1 h2 => by rw [Sem.wp_holding]; exact h Γ p hi h1 h2
theorem wX.onRaise {t : Sem α} {f : Value → Sem Unit} {Q : α → Shared → Prop} (h : wX M A t Q s) : wX M A (t.onRaise f) Q s :=
  fun Γ p hi h1 h2 => by
    rw [Sem.wp_onRaise]
    exact Sem.wp_mono M Γ t (fun _ _ _ k => k) (fun _ _ _ k => k.elim) p s (h Γ p hi h1 h2)
theorem wX.attempt {t : Sem α} {Q : Except Value α → Shared → Prop} (h : wX M A t (fun a s' => Q (.ok a) s') s) : wX M A t.attempt Q s :=
  fun Γ p hi h1 h2 => by
    rw [Sem.wp_attempt]
    exact Sem.wp_mono M Γ t (fun _ _ _ k => k) (fun _ _ _ k => k.elim) p s (h Γ p hi h1 h2)
theorem wX.tryCatch {t : Sem α} {f : Value → Sem α} {Q : α → Shared → Prop} (h : wX M A t Q s) : wX M A (t.tryCatch f) Q s :=
  fun Γ p hi h1 h2 => by
    rw [Sem.wp_tryCatch]
    exact Sem.wp_mono M Γ t (fun _ _ _ k => k) (fun _ _ _ k => k.elim) p s (h Γ p hi h1 h2)
theorem wX.standAt {p' : Pos} {Q : Unit → Shared → Prop} (h : Q () s) : wX M A (PySem.standAt p') Q s := .lift (wpAny_standAt h)
theorem wX.stand {p' : Pos} {f : Unit → Sem β} {Q : β → Shared → Prop} (h : wX M A (f ()) Q s) : wX M A (PySem.standAt p' >>= f) Q s := .bind (.standAt h)
theorem NDs.cons {c : Code} {p : Pos} {l : List (Code × Pos)} (h1 : ND c = true) (h2 : NDs l) : NDs ((c, p) :: l) := fun x hx => by
  rcases List.mem_cons.mp hx with rfl | hx
  · exact h1
  · exact h2 x hx
theorem cX.mono {c : Code} {R R' : Result → Shared → Prop} (h : cX M A c R s) (k : ∀ r s', R r s' → R' r s') : cX M A c R' s := fun Γ p hc hb hn => wpCode_mono k (h Γ p hc hb hn)
theorem cX.lift {c : Code} {R : Result → Shared → Prop} (h : codeAny M A c R s) : cX M A c R s := fun Γ p hc hb _ => h Γ p hc hb
theorem cX.tree {c : Code} {R : Result → Shared → Prop} (hc : ND c = true)
    (h : wX M (A.under c) (M.den c) (fun fin s' => match fin with | .done f => R (.ok f) s' | .again c' => c'.quiet = true ∧ cX M A c' R s') s) : cX M A c R s := fun Γ p e hb hn => by
  rw [wpCode_iff_wp]
  have hΓ : ND Γ.code = true := by rw [e]; exact hc
  have := h Γ p (e ▸ hb.in) hΓ hn
  rw [← e] at this
  refine Sem.wp_mono M Γ _ (fun fin p' s' k => ?_) (fun _ _ _ k => k.elim) p s this
  cases fin with
  | done f => exact k
  | again c' => exact ⟨k.1, k.2 (Γ.goto c') p' rfl (hb.goto c') hn⟩
theorem wX.runValue {c : Code} {Q : Value → Shared → Prop} (h : cX M A c (fun r s' => ∃ v, r = .ok (.ret v) ∧ Q v s') s) : wX M A (PySem.runValue c) Q s := fun Γ p hi h1 h2 => by
  rw [Sem.wp_runValue]
  refine wpCode_mono (fun r s' yy0 => ?_) (h _ p rfl (hi.enter c none p (by intro x; cases x)) (.cons h1 h2))
  obtain ⟨v, e, q⟩ := yy0
  subst e; exact q
theorem wX.run {c : Code} {Q : Flow → Shared → Prop} (h : cX M A c (fun r s' => ∃ v, r = .ok v ∧ Q v s') s) : wX M A (PySem.run c) Q s := fun Γ p hi h1 h2 => by
  rw [Sem.wp_run]
  refine wpCode_mono (fun r s' yy1 => ?_) (h _ p rfl (hi.enter c none p (by intro x; cases x)) (.cons h1 h2))
  obtain ⟨v, e, q⟩ := yy1
  subst e; exact q
theorem wX.call {f : Value} {vs : List Value} {Q : Value → Shared → Prop} (h : cX M A (.call f ⟨vs, []⟩) (fun r s' => ∃ v, r = .ok (.ret v) ∧ Q v s') s) : wX M A (PySem.call f vs) Q s := .runValue h
theorem wX.stack {Q : List (Code × Pos) → Shared → Prop} (h : ∀ l, NDs l → Q l s) : wX M A PySem.stack Q s := fun Γ p _ h1 h2 => by
  show Sem.wp M Γ (Sem.stack Sem.pure) _ _ p s
  rw [Sem.wp_stack, Sem.wp_pure]
  exact h _ (.cons h1 h2)
theorem wX.exported {v : Value} {Q : Bool → Shared → Prop} (hq : Q false s) : wX M A (Builtin.Bytes.exported v) Q s := by
  unfold Builtin.Bytes.exported
  refine .bind (.stack fun l h => .pure ?_)
  refine Eq.mpr (congrArg (fun b => Q b s) ?_) hq
  rw [List.any_eq_false]
  rintro ⟨c, p⟩ hx
  have hn := h _ hx
  cases c with
  | builtin id args =>
    have hl : lenders.contains id = false := by simpa [ND] using hn
    have h0 : ∀ x ∈ lenders, id ≠ x := fun x hx' e => by
      rw [e] at hl
      rw [List.contains_iff_mem.mpr hx'] at hl
      cases hl
    have hd : Builtin.Bytes.decodersThatHold.contains id = false := by
      cases q : Builtin.Bytes.decodersThatHold.contains id with
      | false => rfl
      | true => exact absurd rfl (h0 id (List.mem_append_right _ (List.contains_iff_mem.mp q)))
    have n1 := h0 "bytearray.__contains__" (by decide)
    have n2 := h0 "bytearray.__mod__" (by decide)
    have n3 := h0 "bytearray.__rmod__" (by decide)
    have n4 := h0 "_struct.pack_into.held" (by decide)
    have n5 := h0 "bytearray.find.held" (by decide)
    obtain ⟨pos, kw⟩ := args
    unfold Builtin.Bytes.exported.match_1
    cases pos with
    | nil => simp only [dif_neg n1, dif_neg n2, dif_neg n3, dif_neg n4, dif_neg n5]; exact Bool.false_ne_true
    | cons v pos =>
      simp only [dif_neg n1, dif_neg n2, dif_neg n3, dif_neg n4, dif_neg n5, hd]
      simp
  | _ => simp
end
end Mine
end
section
set_option maxRecDepth 1000000
namespace Mine
open PySem PySem.W PyProof.Rows
namespace BA
theorem mro : mroOf (.type "bytearray") = pure [.type "bytearray", .type "object"] := by rw [mroOf_type]; kernel_rfl
theorem lookup_new : typeLookup (.type "bytearray") "__new__" = pure (some (.builtin "bytearray.__new__")) := by rw [typeLookup_type, builtinLookup_eq_fast]; kernel_rfl
theorem sub : isSubtype (.type "bytearray") (.type "bytearray") = pure true := by rw [isSubtype_type]; kernel_rfl
theorem slot_init : Slot "bytearray" "__init__" "bytearray.__init__" :=
  .of (owner := "bytearray") (n := "__init__") (by rw [typeLookup_type, builtinLookup_eq_fast]; kernel_rfl) (by decide +kernel) (by decide +kernel) (by decide +kernel)
    (by first | exact .inl (by decide +kernel) | exact .inr (by decide +kernel)) sub
theorem slot_setitem : Slot "bytearray" "__setitem__" "bytearray.__setitem__" :=
  .of (owner := "bytearray") (n := "__setitem__") (by rw [typeLookup_type, builtinLookup_eq_fast]; kernel_rfl) (by decide +kernel) (by decide +kernel) (by decide +kernel)
    (by first | exact .inl (by decide +kernel) | exact .inr (by decide +kernel)) sub
theorem made : Bind.madeBy (.type "bytearray") = pure (some "bytearray.__new__") := madeBy_type mro lookup_new (by decide +kernel)
theorem typeCall (a : Value) : checkTypeCall "bytearray" ⟨[a], []⟩ = pure () := by kernel_rfl
theorem newCall (a : Value) : checkBuiltinCall "bytearray.__new__" ⟨[.type "bytearray", a], []⟩ = pure () := by kernel_rfl
theorem entry_new : entryFor table "bytearray.__new__" = some Builtin.«list.__new__» := 
  entryFor_alias (id' := "list.__new__") (by kernel_rfl) (by first | rfl | decide +kernel) (by decide +kernel) (by kernel_rfl)
theorem plain_new : plainId "bytearray.__new__" = true := by decide +kernel
theorem entry_init : entryFor table "bytearray.__init__" = some Builtin.«bytearray.__init__» := by first | exact entryFor_of_tree (by kernel_rfl) | exact entryFor_of_fast (by kernel_rfl)
theorem entry_setitem : entryFor table "bytearray.__setitem__" = some Builtin.«bytearray.__setitem__» := by first | exact entryFor_of_tree (by kernel_rfl) | exact entryFor_of_fast (by kernel_rfl)
set_option maxHeartbeats 4000000 in
theorem owner : ("bytearray.__new__".splitOn ".__new__").headD "" = "bytearray" := by simp +decide [String.splitOn, String.splitOnAux]
theorem notType : (Value.type "bytearray" == Value.type "type") = false := by decide +kernel
theorem canCreate : ((Manifest.find? "bytearray").bind (·.mro.findSome? fun t => (Manifest.find? t).bind fun b => if b.noNew then some true else if b.attrs.any (·.1 == "__new__") then some false else none)).getD false = false := by decide +kernel
theorem no_release : Builtin.Bytes.ownRelease (.ref 0) = Builtin.Bytes.ownRelease (.ref 0) := rfl
theorem look_release : typeLookup (.type "bytearray") "__release_buffer__" = pure (some (.builtin "bytearray.__release_buffer__")) := by rw [typeLookup_type, builtinLookup_eq_fast]; kernel_rfl
theorem look_buffer : typeLookup (.type "bytearray") "__buffer__" = pure (some (.builtin "bytearray.__buffer__")) := by rw [typeLookup_type, builtinLookup_eq_fast]; kernel_rfl
theorem bind (v : Value) : Builtin.Bytes.bindOptional "bytearray.__init__" "bytearray" ["source", "encoding", "errors"] [v] [] = pure [some v, none, none] := by kernel_rfl
theorem ends1 : ("bytearray.__release_buffer__".endsWith ("." ++ "__release_buffer__")) = true := by decide +kernel
theorem ends2 : ("bytearray.__release_buffer__".dropRight ("__release_buffer__".length + 1)) = "bytearray" := by decide +kernel
end BA
section
variable {w : World} {A : Around} {s : Shared}
theorem BA.new (a : Value) {Q₁ : Value → Shared → Prop} (h : Q₁ (.ref s.heap.objs.size) { s with heap := s.heap.push { cls := .type "bytearray", data := .bytearray #[] } }) :
    codeAny (model pw w) A (.call (.builtin "bytearray.__new__") ⟨[.type "bytearray", a], []⟩) (wants Q₁ (fun _ _ => False)) s := by
  refine codeAny_of_tree ?_
  show wpAny _ A.in1 (do checkBuiltinCall "bytearray.__new__" ⟨[.type "bytearray", a], []⟩; again (.builtin "bytearray.__new__" ⟨[.type "bytearray", a], []⟩)) _ _ s
  refine wpAny_bind (wpAny_of_eq (BA.newCall a) (wpAny_pure ⟨plainId_quiet BA.plain_new _, codeAny_builtin_stack BA.entry_new rfl fun p st => ?_⟩))
  rw [Around.under_plainId BA.plain_new _]
  have hsub := BA.sub
  have hown := BA.owner
  obtain ⟨hp, g, d, tk, os⟩ := s
  simp only [hown]
  wp_walk
  exact h
theorem ite_yes' {c : Prop} [Decidable c] {X Y : Prop} (hc : c) (h : X) : if c then X else Y := by rw [if_pos hc]; exact h
theorem wX.yes {α : Type} {M : Model} {c : Prop} [Decidable c] {a b : Sem α} {Q : α → Shared → Prop} (hc : c) (h : wX M A a Q s) : wX M A (if c then a else b) Q s := by rw [if_pos hc]; exact h
theorem wX.no {α : Type} {M : Model} {c : Prop} [Decidable c] {a b : Sem α} {Q : α → Shared → Prop} (hc : ¬ c) (h : wX M A b Q s) : wX M A (if c then a else b) Q s := by rw [if_neg hc]; exact h
theorem wX.of_eq {α : Type} {M : Model} {t : Sem α} {a : α} {Q : α → Shared → Prop} (e : t = Pure.pure a) (h : Q a s) : wX M A t Q s := by rw [e]; exact .pure h
theorem BA.own {E : Value → Shared → Prop} {a : Addr} {Q : Bool → Shared → Prop} (hT : s.TypeIs (.ref a) "bytearray") (h : Q false s) : wpAny (model pw w) A (Builtin.Bytes.ownRelease (.ref a)) Q E s := by
  unfold Builtin.Bytes.ownRelease Builtin.Bytes.slotIsOwn
  refine wpAny_bind (wpAny_bind (wpAny_specialOf hT BA.look_release ?_))
  dsimp only
  rw [BA.ends1, BA.ends2]
  show wpAny _ _ (isInstance (.ref a) (.type "bytearray")) _ _ _
  exact wpAny_isInstance hT BA.sub (wpAny_pure h)
theorem ND.of {id : String} {args : Args} (h : lenders.contains id = false) : ND (.builtin id args) = true := by show (!lenders.contains id) = true; rw [h]; rfl
theorem cX.builtin {id : String} {args : Args} {b : Builtin} {R : Result → Shared → Prop} (hn : lenders.contains id = false) (hb : entryFor table id = some b)
    (h : wX (model pw w) (A.under (.builtin id args)) (b args) (fun fin s' => match fin with | .done f => R (.ok f) s' | .again c' => c'.quiet = true ∧ cX (model pw w) A c' R s') s) : cX (model pw w) A (.builtin id args) R s := by
  refine .tree (ND.of hn) ?_
  show wX _ _ (match entryFor table id with | some b => b args | none => unsupported ((withoutEnding? id "#data").getD id)) _ s
  rw [hb]; exact h
theorem BA.write {E : Value → Shared → Prop} {a : Addr} {b : Array UInt8} {f : Array UInt8 → Array UInt8} {Q : Unit → Shared → Prop} (hS : s.heap.get? a = some { cls := .type "bytearray", data := .bytearray b }) (hz : (f b).size ≤ sizeLine)
    (h : ∀ h', h'.get? a = some { cls := .type "bytearray", data := .bytearray (f b) } → Heap.SameBut a s.heap h' → Q () { s with heap := h' }) : wpAny (model pw w) A (Builtin.Bytes.write (.ref a) f) Q E s := by
  show wpAny _ _ (updateBytearray a f) _ _ _
  unfold updateBytearray
  refine wpAny_bind (wpAny_load hS ?_)
  show wpAny _ _ (update a (Obj.mapBytearray f) >>= fun _ => lookBehind a) _ _ _
  refine wpAny_bind (wpAny_update hS ?_)
  have hS₂ : (s.heap.update a (Obj.mapBytearray f)).get? a = some { cls := .type "bytearray", data := .bytearray (f b) } := Heap.get?_update_self _ hS rfl
  refine wpAny_lookBehind hS₂ ?_ (h _ hS₂ (Heap.SameBut.update ..))
  show (if (f b).size > sizeLine then some "bytearray:memory" else none) = none
  rw [if_neg (by (first | lia | omega))]
theorem sameBut_trans {a : Addr} {h₁ h₂ h₃ : Heap} (x : Heap.SameBut a h₁ h₂) (y : Heap.SameBut a h₂ h₃) : Heap.SameBut a h₁ h₃ := ⟨y.1.trans x.1, fun b hb => (y.2 b hb).trans (x.2 b hb)⟩
theorem BA.init {a : Addr} {n : Int} {t : Tok} {R : PySem.Fin → Shared → Prop} (h0 : 0 ≤ n) (h1 : n ≤ 1000) (hS : s.heap.get? a = some { cls := .type "bytearray", data := .bytearray #[] })
    (hR : ∀ h', h'.get? a = some { cls := .type "bytearray", data := .bytearray (Array.replicate n.toNat 0) } → Heap.SameBut a s.heap h' → R (.done (.ret .none)) { s with heap := h' }) :
    wX (model pw w) A (Builtin.«bytearray.__init__» ⟨[.ref a, .int n t], []⟩) R s := by
  unfold Builtin.«bytearray.__init__»
  have hT : s.TypeIs (.ref a) "bytearray" := ⟨_, hS, rfl⟩
  refine .bind (.lift (BA.own hT ?_))
  refine .bind (.lift (wpAny_of_eq (BA.bind _) ?_))
  dsimp only
  refine .bind (.lift (wpAny_of_eq (a := ()) rfl ?_))
  refine .bind (.lift (wpAny_of_eq (a := ()) rfl ?_))
  refine .bind (.bind (.exported ?_))
  refine .bind (.lift ?_)
  show wpAny _ _ (do match (← load a).data with | .bytearray _ n => pure n | _ => pure 0) _ _ _
  refine wpAny_bind (wpAny_load hS (wpAny_pure ?_))
  refine .pure (.lift ?_)
  refine wpAny_ite (KBy.ite_no (show ¬ (decide (0 > 0) = true) by decide) ?_)
  refine wpAny_bind (BA.write hS (Nat.zero_le _) fun h' hS' hs' => ?_)
  refine wpAny_bind (wpAny_of_eq (rfl : asStr? (.int n t) = pure none) ?_)
  refine wpAny_ite (KBy.ite_no (show ¬ ((none : Option Str).isSome = true) by simp) ?_)
  refine wpAny_bind (wpAny_of_eq (a := ()) rfl ?_)
  refine wpAny_bind (wpAny_specialOf (T := "int") (typeIs_int _ n t) int_index ?_)
  refine wpAny_ite (ite_yes' rfl ?_)
  refine wpAny_bind (wpAny_of_eq (rfl : (asIndex (.int n t)).attempt = pure (.ok n)) ?_)
  refine wpAny_ite (KBy.ite_no (by simp [Builtin.Bytes.fitsIndex]; (first | lia | omega)) ?_)
  refine wpAny_ite (KBy.ite_no (by (first | lia | omega)) ?_)
  refine wpAny_ite (KBy.ite_no (by simp; (first | lia | omega)) ?_)
  refine wpAny_ite (KBy.ite_no (by simp [Builtin.Bytes.tooLong, sizeLine_eq]; (first | lia | omega)) ?_)
  refine wpAny_bind (wpAny_rule ?_)
  by_cases hn : n > 0
  · refine wpAny_ite (ite_yes' hn ?_)
    refine wpAny_bind (BA.write (s := { s with heap := h' }) hS' (by rw [Array.size_replicate, sizeLine_eq]; (first | lia | omega)) fun h2 hS2 hs2 => ?_)
    exact wpAny_pure (hR h2 hS2 (sameBut_trans hs' hs2))
  · refine wpAny_ite (KBy.ite_no hn ?_)
    have : n = 0 := by (first | lia | omega)
    subst this
    exact wpAny_pure (hR h' hS' hs')
theorem BA.args_init (a b : Value) : argsOk "bytearray.__init__" ⟨[a, b], []⟩ := by unfold argsOk; kernel_rfl
theorem BA.plain_init : plainId "bytearray.__init__" = true := by decide +kernel
theorem cX.call_builtin {id : String} {args : Args} {b : Builtin} {R : Result → Shared → Prop} (hq : plainId id = true) (hn : lenders.contains id = false) (hb : entryFor table id = some b)
    (h : wX (model pw w) A.in1 (checkBuiltinCall id args) (fun _ s₁ => wX (model pw w) A.in1 (b args)
      (fun fin s' => match fin with | .done f => R (.ok f) s' | .again c' => c'.quiet = true ∧ cX (model pw w) A c' R s') s₁) s) : cX (model pw w) A (.call (.builtin id) args) R s := by
  refine .tree rfl ?_
  show wX _ A.in1 (do checkBuiltinCall id args; again (.builtin id args)) _ s
  refine .bind (h.mono fun _ s₁ h₁ => .pure ⟨plainId_quiet hq args, .builtin hn hb ?_⟩)
  rw [Around.under_plainId hq args]
  exact h₁
/-- bytearray(n) -/
theorem BA.call {n : Int} {t : Tok} {Q : Value → Shared → Prop} (h0 : 0 ≤ n) (h1 : n ≤ 1000)
    (h : ∀ h', (∀ b o, s.heap.get? b = some o → h'.get? b = some o) → h'.get? s.heap.objs.size = some { cls := .type "bytearray", data := .bytearray (Array.replicate n.toNat 0) } →
      Q (.ref s.heap.objs.size) { s with heap := h' }) : wX (model pw w) A (PySem.call (.type "bytearray") [.int n t]) Q s := by
  refine .call (.tree rfl ?_)
  show wX _ A.in1 (callAny (.type "bytearray") _) _ s
  refine .pure ⟨Code.quiet_builtin _ (by decide +kernel), .builtin (by decide +kernel) F.entry_type_call ?_⟩
  rw [Around.under_plain (weight_type_call_type "bytearray" _ []) (units_type_call_type "bytearray" _ [])]
  unfold Builtin.«type.__call__»
  dsimp only
  refine .no (by rw [BA.notType]; exact Bool.false_ne_true) ?_
  refine .no (by rw [BA.canCreate]; exact Bool.false_ne_true) ?_
  refine .bind (.of_eq (BA.typeCall _) ?_)
  refine .bind (.of_eq BA.mro ?_)
  refine .no (by decide) ?_
  refine .bind (.of_eq BA.made ?_)
  refine .bind (.pure ?_)
  refine .bind (.holding (.call (.lift (codeAny_mono (BA.new _ (Q₁ := fun obj s₁ => obj = .ref s.heap.objs.size ∧ s₁ = { s with heap := s.heap.push { cls := .type "bytearray", data := .bytearray #[] } }) ⟨rfl, rfl⟩) fun r s₁ hr => ?_))))
  cases r with
  | error e => exact hr.elim
  | ok fl =>
    cases fl with
    | ret obj =>
      obtain ⟨rfl, rfl⟩ := hr
      refine ⟨_, rfl, ?_⟩
      have hS := Heap.get?_push_size s.heap (o := { cls := .type "bytearray", data := .bytearray #[] }) rfl
      have hT : Shared.TypeIs { s with heap := s.heap.push { cls := .type "bytearray", data := .bytearray #[] } } (.ref s.heap.objs.size) "bytearray" := ⟨_, hS, rfl⟩
      refine .bind (.lift (wpAny_isInstance hT BA.sub ?_))
      refine .no (by decide) ?_
      refine .bind (.holding ?_)
      unfold callSpecial?
      refine .bind (.lift (wpAny_specialOf hT BA.slot_init.lookup ?_))
      refine .holding ?_
      rw [BA.slot_init.bind]
      refine .bind (.pure (.bind (.call (.call_builtin BA.plain_init (by decide +kernel) BA.entry_init (.lift (BA.slot_init.check _ _ _ _ _ _ _ _ hT (BA.args_init _ _) ?_))))))
      refine BA.init h0 h1 hS fun h' hS' hs' => ⟨.none, rfl, .pure (.no (by decide) (.pure ⟨_, rfl, h h' (fun b o e => ?_) hS'⟩))⟩
      exact hs'.extBut b o (Nat.ne_of_lt (Heap.lt_size e)) (Heap.get?_push_of_some _ e)
    | _ => exact hr.elim
theorem BA.sub_setitem (a b c : Value) : argsOk "bytearray.__setitem__" ⟨[a, b, c], []⟩ := by unfold argsOk; kernel_rfl
/-- a[i] = x -/
theorem BA.setItem {E : Value → Shared → Prop} {a : Addr} {b : Array UInt8} {i x : Int} {t u : Tok} {Q : Unit → Shared → Prop} (hS : s.heap.get? a = some { cls := .type "bytearray", data := .bytearray b }) (hz : b.size ≤ 1000)
    (h0 : 0 ≤ i) (h1 : i < b.size) (hx0 : 0 ≤ x) (hx1 : x < 256)
    (h : ∀ h', h'.get? a = some { cls := .type "bytearray", data := .bytearray (b.setIfInBounds i.toNat x.toNat.toUInt8) } → Heap.SameBut a s.heap h' → Q () { s with heap := h' }) :
    wpAny (model pw w) A (PySem.setItem (.ref a) (.int i t) (.int x u)) Q E s := by
  have hT : s.TypeIs (.ref a) "bytearray" := ⟨_, hS, rfl⟩
  unfold PySem.setItem
  try with_reducible refine wpAny_holding ?_
  refine wpAny_bind (wpAny_sequenceKey hT (by decide) ?_)
  refine wpAny_bind (wpAny_callSpecial?_slot (name := Str.ofString "__setitem__") hT BA.slot_setitem
    (wpAny_call_entry BA.slot_setitem hT BA.entry_setitem ?_ (BA.sub_setitem _ _ _)))
  unfold Builtin.«bytearray.__setitem__»
  refine wpAny_ite (KBy.ite_no (by simp) ?_)
  refine wpAny_bind (wpAny_bind (wpAny_specialOf (T := "int") (typeIs_int _ i t) int_index ?_))
  refine wpAny_ite (KBy.ite_no (by simp) ?_)
  refine wpAny_bind (wpAny_of_eq (rfl : asIndex (.int i t) = pure i) ?_)
  refine wpAny_ite (KBy.ite_no (by simp [Builtin.Bytes.fitsIndex]; (first | lia | omega)) ?_)
  refine wpAny_pure ?_
  refine wpAny_bind (wpAny_bind (wpAny_of_eq (rfl : asIndex (.int x u) = pure x) ?_))
  refine wpAny_ite (KBy.ite_no (by simp; (first | lia | omega)) ?_)
  refine wpAny_pure ?_
  refine wpAny_bind (wpAny_bind (wpAny_bind (wpAny_load hS (wpAny_pure (wpAny_pure ?_)))))
  have e : seqIndex? i b.size = some i.toNat := by
    have : ¬ i < 0 := by (first | lia | omega)
    simp [seqIndex?, this]; (first | lia | omega)
  rw [e]
  refine wpAny_bind (BA.write hS (by rw [Array.size_setIfInBounds, sizeLine_eq]; (first | lia | omega)) fun h' hS' hs' => ?_)
  exact wpAny_pure ⟨_, rfl, wpAny_pure (h h' hS' hs')⟩
theorem BA.no_bytes : typeLookup (.type "bytearray") "__bytes__" = pure none := by rw [typeLookup_type, builtinLookup_eq_fast]; kernel_rfl
theorem BA.no_index : typeLookup (.type "bytearray") "__index__" = pure none := by rw [typeLookup_type, builtinLookup_eq_fast]; kernel_rfl
theorem BA.ends3 : ("bytearray.__buffer__".endsWith ("." ++ "__buffer__")) = true := by decide +kernel
theorem BA.ends4 : ("bytearray.__buffer__".dropRight ("__buffer__".length + 1)) = "bytearray" := by decide +kernel
theorem BA.buffer {E : Value → Shared → Prop} {id : String} {f : Bool} {a : Addr} {b : Array UInt8} {Q : Option (Array UInt8) → Shared → Prop} (hS : s.heap.get? a = some { cls := .type "bytearray", data := .bytearray b })
    (h : Q (some b) s) : wpAny (model pw w) A (Builtin.Bytes.buffer? id (.ref a) f) Q E s := by
  have hT : s.TypeIs (.ref a) "bytearray" := ⟨_, hS, rfl⟩
  unfold Builtin.Bytes.buffer?
  refine wpAny_bind (wpAny_specialOf hT BA.look_buffer ?_)
  dsimp only
  refine wpAny_bind ?_
  unfold Builtin.Bytes.slotIsOwn
  refine wpAny_bind (wpAny_specialOf hT BA.look_buffer ?_)
  dsimp only
  rw [BA.ends3, BA.ends4]
  show wpAny _ _ (isInstance (.ref a) (.type "bytearray")) _ _ _
  refine wpAny_isInstance hT BA.sub ?_
  refine wpAny_ite (KBy.ite_no (by decide) ?_)
  refine wpAny_bind (wpAny_specialOf hT BA.look_buffer ?_)
  refine wpAny_bind (BA.own hT ?_)
  refine wpAny_ite (KBy.ite_no (by decide) ?_)
  exact wpAny_bind (wpAny_bind (wpAny_bind (wpAny_load hS (wpAny_pure (wpAny_pure (wpAny_pure h))))))
/-- bytes(a) -/
theorem BA.bytes {E : Value → Shared → Prop} {a : Addr} {b : Array UInt8} {Q : Value → Shared → Prop} (hS : s.heap.get? a = some { cls := .type "bytearray", data := .bytearray b }) (hz : b.size ≤ 1000)
    (h : ∀ t k, Q (.bytes b t) { s with toks := k }) : wpAny (model pw w) A (PySem.call (.type "bytes") [.ref a]) Q E s := by
  have hT : s.TypeIs (.ref a) "bytearray" := ⟨_, hS, rfl⟩
  refine callType_codes (Q₁ := fun obj s₁ => s₁.TypeIs obj "bytes" ∧ Q obj s₁) F.bm_called (F.bm_typeCall _) F.entry_object_init ?_ fun obj s₁ h₁ => ?_
  · refine codeAny_of_tree ?_
    show wpAny _ A.in1.in1 (do checkBuiltinCall "bytes.__new__" ⟨[.type "bytes", .ref a], []⟩; again (.builtin "bytes.__new__" ⟨[.type "bytes", .ref a], []⟩)) _ _ s
    refine wpAny_bind (wpAny_of_eq (F.bm_newCall _) (wpAny_pure ⟨plainId_quiet F.bm_plain _, codeAny_builtin F.bm_entry ?_⟩))
    rw [Around.under_plainId F.bm_plain _]
    unfold Builtin.«bytes.__new__»
    refine wpAny_bind (wpAny_of_eq (a := true) rfl ?_)
    refine bm_if_false rfl ?_
    refine wpAny_bind (wpAny_of_eq F.bm_sub ?_)
    refine bm_if_false rfl ?_
    refine wpAny_bind (wpAny_of_eq (F.bm_bind _) ?_)
    refine wpAny_bind (wpAny_of_eq (a := ()) rfl ?_)
    refine wpAny_bind (wpAny_of_eq (a := ()) rfl ?_)
    refine bm_if_false rfl ?_
    refine wpAny_bind (wpAny_specialOf hT BA.no_bytes ?_)
    refine wpAny_bind (wpAny_bind ?_)
    show wpAny _ _ (load a >>= _) _ _ _
    refine wpAny_bind (wpAny_load hS ?_)
    refine wpAny_pure (wpAny_pure ?_)
    refine bm_if_false rfl ?_
    refine wpAny_bind (wpAny_specialOf hT BA.no_index ?_)
    refine bm_if_true rfl ?_
    first
      | show wpAny _ _ (Builtin.Bytes.buffer? "bytes.__new__" (.ref a) true >>= _) _ _ _
      | (refine wpAny_bind ?_; show wpAny _ _ (Builtin.Bytes.buffer? "bytes.__new__" (.ref a) true >>= _) _ _ _)
    refine wpAny_bind (BA.buffer hS ?_)
    dsimp only
    refine wpAny_bind (wpAny_rule ?_)
    refine wpAny_bind (wpAny_mkBytes (b := b) ?_ (by rw [sizeLine_eq]; (first | lia | omega)))
    refine bm_if_true rfl ?_
    exact wpAny_pure ⟨typeIs_bytes _ _ _, h _ _⟩
  · exact ⟨h₁.1, F.args_object_init_2 obj _, object_init_meets F.bm_called.init.lookup F.bm_called.made (by decide) pw w _ _ s₁ ⟨h₁.1, rfl, h₁.2⟩⟩
end
end Mine
end
section
set_option maxRecDepth 1000000
namespace Mine
open PySem PySem.W PyProof.Rows
namespace BJ
theorem look_buffer : typeLookup (.type "bytes") "__buffer__" = pure (some (.builtin "bytes.__buffer__")) := by rw [typeLookup_type, builtinLookup_eq_fast]; kernel_rfl
theorem look_release : typeLookup (.type "bytes") "__release_buffer__" = pure none := by rw [typeLookup_type, builtinLookup_eq_fast]; kernel_rfl
theorem ends1 : ("bytes.__buffer__".endsWith ("." ++ "__buffer__")) = true := by decide +kernel
theorem ends2 : ("bytes.__buffer__".dropRight ("__buffer__".length + 1)) = "bytes" := by decide +kernel
theorem slot : Slot "bytes" "join" "bytes.join" :=
  .of (owner := "bytes") (n := "join") (by rw [typeLookup_type, builtinLookup_eq_fast]; kernel_rfl) (by decide +kernel) (by decide +kernel) (by decide +kernel)
    (by first | exact .inl (by decide +kernel) | exact .inr (by decide +kernel)) (by rw [isSubtype_type]; kernel_rfl)
theorem entry : entryFor table "bytes.join" = some Builtin.«bytes.join» := by first | exact entryFor_of_tree (by kernel_rfl) | exact entryFor_of_fast (by kernel_rfl)
theorem args (a b : Value) : argsOk "bytes.join" ⟨[a, b], []⟩ := by unfold argsOk; kernel_rfl
end BJ
section
variable {w : World} {A : Around} {s : Shared} {E : Value → Shared → Prop}
theorem BJ.own {b : Array UInt8} {t : Tok} {Q : Bool → Shared → Prop} (h : Q false s) : wpAny (model pw w) A (Builtin.Bytes.ownRelease (.bytes b t)) Q E s := by
  unfold Builtin.Bytes.ownRelease Builtin.Bytes.slotIsOwn
  refine wpAny_bind (wpAny_bind (wpAny_specialOf (typeIs_bytes s b t) BJ.look_release (wpAny_pure (wpAny_pure h))))
theorem BJ.slotOwn {b : Array UInt8} {t : Tok} {Q : Bool → Shared → Prop} (h : Q true s) : wpAny (model pw w) A (Builtin.Bytes.slotIsOwn (.bytes b t) "__buffer__") Q E s := by
  unfold Builtin.Bytes.slotIsOwn
  refine wpAny_bind (wpAny_specialOf (typeIs_bytes s b t) BJ.look_buffer ?_)
  dsimp only
  rw [BJ.ends1, BJ.ends2]
  show wpAny _ _ (isInstance (.bytes b t) (.type "bytes")) _ _ _
  exact wpAny_isInstance (typeIs_bytes s b t) F.bm_sub h
theorem BJ.buffer {id : String} {f : Bool} {b : Array UInt8} {t : Tok} {Q : Option (Array UInt8) → Shared → Prop} (h : Q (some b) s) : wpAny (model pw w) A (Builtin.Bytes.buffer? id (.bytes b t) f) Q E s := by
  unfold Builtin.Bytes.buffer?
  refine wpAny_bind (wpAny_specialOf (typeIs_bytes s b t) BJ.look_buffer ?_)
  dsimp only
  refine wpAny_bind (BJ.slotOwn ?_)
  refine wpAny_ite (KBy.ite_no (by decide) ?_)
  refine wpAny_bind (wpAny_specialOf (typeIs_bytes s b t) BJ.look_buffer ?_)
  refine wpAny_bind (BJ.own ?_)
  refine wpAny_ite (KBy.ite_no (by decide) ?_)
  exact wpAny_bind (wpAny_of_eq (a := b) rfl (wpAny_pure h))
theorem BJ.take {id : String} {b : Array UInt8} {t : Tok} {Q : Option (Array UInt8 × Option Value) → Shared → Prop} (h : Q (some (b, none)) s) : wpAny (model pw w) A (Builtin.Bytes.takeBufferQuiet? id (.bytes b t) 0) Q E s := by
  unfold Builtin.Bytes.takeBufferQuiet?
  refine wpAny_bind (wpAny_attempt ?_)
  unfold Builtin.Bytes.takeBuffer?
  refine wpAny_bind (wpAny_specialOf (typeIs_bytes s b t) BJ.look_buffer ?_)
  dsimp only
  refine wpAny_bind (BJ.slotOwn ?_)
  refine wpAny_ite (KBy.ite_no (by decide) ?_)
  refine wpAny_bind (wpAny_specialOf (typeIs_bytes s b t) BJ.look_buffer ?_)
  refine wpAny_bind (BJ.buffer ?_)
  exact wpAny_pure (wpAny_pure h)
theorem wpAny_range {β : Type} {M : Model} {n : Nat} {f : Nat → β → Sem (ForInStep β)} (I : Nat → β → Prop) {b : β} {Q : β → Shared → Prop} (h0 : I 0 b)
    (step : ∀ i b, i < n → I i b → wpAny M A (f i b) (fun r s' => s' = s ∧ ∃ b', r = .yield b' ∧ I (i + 1) b') E s) (hQ : ∀ b, I n b → Q b s) : wpAny M A (forIn [0:n] b f) Q E s := by
  rw [Std.Legacy.Range.forIn_eq_forIn_range']
  have e : ([0:n] : Std.Legacy.Range).size = n := by simp [Std.Legacy.Range.size]
  show wpAny M A (forIn (List.range' 0 ([0:n] : Std.Legacy.Range).size 1) b f) Q E s
  rw [e]
  have key : ∀ (k i : Nat) (b : β), i + k = n → I i b → wpAny M A (forIn (List.range' i k 1) b f) Q E s := by
    intro k
    induction k with
    | zero => intro i b hk hi; simp only [List.range'_zero, List.forIn_nil]; exact wpAny_pure (hQ b ((show i = n by (first | lia | omega)) ▸ hi))
    | succ k ih =>
      intro i b hk hi
      simp only [List.range'_succ, List.forIn_cons]
      refine wpAny_bind (wpAny_mono (step i b (by (first | lia | omega)) hi) (fun r s' hr => ?_) fun _ _ e => e)
      obtain ⟨rfl, b', rfl, hb⟩ := hr
      exact ih (i + 1) b' (by (first | lia | omega)) hb
  exact key n 0 b (by (first | lia | omega)) h0
theorem BJ.letGo : ∀ {taken : List (Value × Option Value)} {keep : List Value} {Q : Unit → Shared → Prop}, (∀ p ∈ taken, p.1.onHeap = false ∧ p.2 = none) → Q () s → wpAny (model pw w) A (Builtin.Bytes.joinLetGo taken keep) Q E s
  | [], _, _, _, h => wpAny_pure h
  | (x, u) :: r, keep, Q, hp, h => by
    obtain ⟨_, rfl⟩ := hp _ (.head _)
    unfold Builtin.Bytes.joinLetGo
    exact wpAny_bind (wpAny_letGo (BJ.letGo (fun p hm => hp p (.tail _ hm)) h))
theorem BJ.joined (bs : List (List UInt8)) : Builtin.Bytes.joined #[] (bs.map List.toArray) = bs.flatten.toArray := by
  unfold Builtin.Bytes.joined
  have key : ∀ (l : List (List UInt8)) (k : Nat) (o : Array UInt8), ((l.map List.toArray).zipIdx k).foldl (fun out (x : Array UInt8 × Nat) => (if x.2 > 0 then out ++ #[] else out) ++ x.1) o = o ++ l.flatten.toArray := by
    intro l
    induction l with
    | nil => intro k o; simp
    | cons b l ih =>
      intro k o
      simp only [List.map_cons, List.zipIdx_cons, List.foldl_cons, List.flatten_cons]
      rw [ih]
      simp
  have := key bs 0 #[]
  simpa using this
theorem BJ.size (bs : List (List UInt8)) : ∀ (k : Nat), (bs.map List.toArray).foldl (fun n (b : Array UInt8) => n + b.size) k = k + bs.flatten.length := by
  induction bs with
  | nil => intro k; simp
  | cons b l ih => intro k; simp only [List.map_cons, List.foldl_cons, List.flatten_cons, List.length_append]; rw [ih]; simp; (first | lia | omega)
theorem BJ.join {l : Addr} {vs : List Value} {bs : List (List UInt8)} {n : Nat} {t : Tok} {Q : Value → Shared → Prop} (hl : s.heap.get? l = some { cls := .type "list", data := .seq vs.toArray n })
    (hv : ∀ (i : Nat) (b : List UInt8), bs[i]? = some b → ∃ u, vs[i]? = some (Value.bytes b.toArray u)) (hlen : bs.length = vs.length) (h2 : 2 ≤ vs.length) (hz : bs.flatten.length ≤ 1000000) (h : ∀ t k, Q (.bytes bs.flatten.toArray t) { s with toks := k }) :
    wpAny (model pw w) A (PySem.call (.builtin "bytes.join") [.bytes #[] t, .ref l]) Q E s := by
  refine wpAny_call_entry BJ.slot (typeIs_bytes _ _ _) BJ.entry ?_ (BJ.args _ _)
  have hT : s.TypeIs (.ref l) "list" := ⟨_, hl, rfl⟩
  unfold Builtin.«bytes.join» Builtin.Bytes.joinM
  refine wpAny_bind (wpAny_of_eq (a := (Value.bytes #[] t, Value.ref l)) rfl ?_)
  dsimp only
  refine wpAny_ite (ite_yes' (by decide) ?_)
  refine wpAny_bind (wpAny_bind (wpAny_typeOf hT ?_))
  refine wpAny_ite (ite_yes' (by decide) ?_)
  refine wpAny_pure ?_
  refine wpAny_bind (wpAny_bind (wpAny_load hl (wpAny_pure ?_)))
  dsimp only
  refine wpAny_ite (ite_yes' (by decide) ?_)
  rcases vs with _ | ⟨x, _ | ⟨y, r⟩⟩
  · simp at h2
  · simp at h2
  have hsz : (x :: y :: r).toArray.size = bs.length := by simpa using hlen.symm
  refine wpAny_bind (wpAny_range (I := fun i (b : Array (Array UInt8) × List (Value × Option Value)) => b.1.toList = (bs.take i).map List.toArray ∧ ∀ p ∈ b.2, p.1.onHeap = false ∧ p.2 = none) ⟨by simp, by simp⟩ (fun i b hi hb => ?_) fun b hb => ?_)
  · have hib : i < bs.length := by rw [← hsz]; exact hi
    obtain ⟨u, hu⟩ := hv i bs[i] (List.getElem?_eq_getElem hib)
    have hx : (x :: y :: r).toArray.getD i Value.none = .bytes bs[i].toArray u := by
      rw [Array.getD_eq_getD_getElem?]
      have : (x :: y :: r).toArray[i]? = some (Value.bytes bs[i].toArray u) := by rw [List.getElem?_toArray]; exact hu
      rw [this]; rfl
    have ha : (b.2.any fun x => x.1.onHeap) = false := by
      rw [List.any_eq_false]; intro p hp; rw [(hb.2 p hp).1]; exact Bool.false_ne_true
    refine wpAny_bind (wpAny_bind (wpAny_load hl (wpAny_pure ?_)))
    dsimp only
    rw [ha, hx]
    refine wpAny_ite (KBy.ite_no (by decide) ?_)
    refine wpAny_bind (wpAny_holding (BJ.take ?_))
    dsimp only
    refine wpAny_bind (wpAny_bind (wpAny_load hl (wpAny_pure ?_)))
    dsimp only
    refine wpAny_ite (KBy.ite_no (by simp) ?_)
    refine wpAny_pure ⟨rfl, _, rfl, ?_, ?_⟩
    · rw [Array.toList_push, hb.1, List.take_add_one, List.getElem?_eq_getElem hib, List.map_append]; rfl
    · intro p hp
      rcases List.mem_append.mp hp with hp | hp
      · exact hb.2 p hp
      · rw [List.mem_singleton.mp hp]; exact ⟨rfl, rfl⟩
  · have e : b.1.toList = bs.map List.toArray := by rw [hb.1, hsz, List.take_of_length_le (Nat.le_refl _)]
    refine wpAny_bind (wpAny_of_eq (a := #[]) rfl ?_)
    have ef : Array.foldl (fun x1 (x2 : Array UInt8) => x1 + x2.size) ((#[] : Array UInt8).size * (b.1.size - 1)) b.1 = bs.flatten.length := by
      rw [← Array.foldl_toList, e, BJ.size]; simp
    rw [ef, e, BJ.joined]
    refine wpAny_ite (KBy.ite_no (by simp only [Builtin.Bytes.tooLong, sizeLine_eq, decide_eq_true_eq]; (first | lia | omega)) ?_)
    refine wpAny_bind ?_
    show wpAny _ _ (mkBytes bs.flatten.toArray) _ _ _
    refine wpAny_mkBytes ?_ (by rw [sizeLine_eq, List.size_toArray]; (first | lia | omega))
    refine wpAny_bind (wpAny_holding (wpAny_point ?_))
    refine wpAny_bind (BJ.letGo hb.2 ?_)
    exact wpAny_pure ⟨_, rfl, h _ _⟩
end
end Mine
end
section
set_option maxRecDepth 100000
namespace Mine
open PySem PySem.W PyProof.Rows PySem.SeqAt
section
variable {w : World} {B : Heap} {A : Around} {ρ ρ₁ : R} {h h₁ : H} {s s₁ : Shared} {Q Q₁ : K1}
/-- an object of the machine's that becomes one of the text's -/
theorem HR.adopt (x : HR w B ρ h s) {p : Addr × Addr} {o : O} (hp : ∀ q ∈ ρ, (q.1 ≠ p.1 ∧ q.1 ≠ p.2) ∧ (q.2 ≠ p.1 ∧ q.2 ≠ p.2)) (hb : (B.get? p.1 = none ∧ B.get? p.2 = none) ∧ 3 < p.1 ∧ 3 < p.2)
    (r : RO w (ρ ++ [p]) s.heap p o) : HR w B (ρ ++ [p]) (h ++ [o]) s := by
  have get : ∀ (i : Nat) q, (ρ ++ [p])[i]? = some q → (ρ[i]? = some q ∧ q ∈ ρ) ∨ (i = ρ.length ∧ q = p) := fun i q e => by
    by_cases hi : i < ρ.length
    · rw [List.getElem?_append_left hi] at e; exact .inl ⟨e, List.mem_of_getElem? e⟩
    · rw [List.getElem?_append_right (by (first | lia | omega))] at e
      have : i - ρ.length = 0 := by
        have := (List.getElem?_eq_some_iff.mp e).1
        simp at this; (first | lia | omega)
      rw [this] at e
      exact .inr ⟨by (first | lia | omega), by simpa using e.symm⟩
  refine ⟨by simp [x.len], x.base, fun k o' q e1 e2 => ?_, fun i j q q' e1 e2 ne => ?_, fun k q o' e1 e2 hn => ?_, x.g3⟩
  · rcases get k q e2 with ⟨e2, _⟩ | ⟨rfl, rfl⟩
    · have hk : k < h.length := by rw [← x.len]; exact (List.getElem?_eq_some_iff.mp e2).1
      rw [List.getElem?_append_left hk] at e1
      exact (x.objs k o' q e1 e2).mono (sub_push _) (fun _ e => e) fun _ e => e
    · rw [x.len, List.getElem?_append_right (Nat.le_refl _)] at e1
      simp only [Nat.sub_self, List.getElem?_cons_zero, Option.some.injEq] at e1
      subst e1
      exact r
  · rcases get i q e1 with ⟨e1, m1⟩ | ⟨rfl, rfl⟩ <;> rcases get j q' e2 with ⟨e2, m2⟩ | ⟨rfl, rfl⟩
    · exact x.apart i j q q' e1 e2 ne
    · exact ⟨(hp q m1).1.1, (hp q m1).1.2, (hp q m1).2.2⟩
    · exact ⟨(hp q' m2).1.1.symm, (hp q' m2).2.1.symm, (hp q' m2).2.2.symm⟩
    · exact absurd rfl ne
  · rcases get k q e1 with ⟨e1, _⟩ | ⟨rfl, rfl⟩
    · have hk : k < h.length := by rw [← x.len]; exact (List.getElem?_eq_some_iff.mp e1).1
      rw [List.getElem?_append_left hk] at e2
      exact x.fresh k q o' e1 e2 hn
    · exact hb
/-- an address that nothing had -/
theorem HR.new (x : HR w B ρ h s) {a : Addr} (ha : s.heap.objs.size ≤ a) : B.get? a = none ∧ 3 < a := by
  constructor
  · cases q : B.get? a with
    | none => rfl
    | some o => exact absurd (Heap.lt_size (x.base _ _ q)) (Nat.not_lt.mpr ha)
  · obtain ⟨o, e⟩ := x.g3
    exact Nat.lt_of_lt_of_le (Heap.lt_size (x.base _ _ e)) ha
theorem HR.lt (x : HR w B ρ h s) {q : Addr × Addr} (hq : q ∈ ρ) : q.1 < s.heap.objs.size ∧ q.2 < s.heap.objs.size := by
  refine hide fun gp gg => ?_; obtain ⟨⟨a, ea⟩, ⟨b, eb⟩⟩ := x.live hq; refine gg ?_; clear gg gp
  exact ⟨Heap.lt_size ea, Heap.lt_size eb⟩
theorem get_big {hh : Heap} {a : Addr} (ha : hh.objs.size ≤ a) : hh.get? a = none := by
  cases q : hh.get? a with
  | none => rfl
  | some o => exact absurd (Heap.lt_size q) (Nat.not_lt.mpr ha)
theorem kinds_index (tb : Tabs B) {n : N} {k : Nat} {t : Tok} (hr : HR w B ρ h s) (e : posOf (.str n) kindsL = some k) (q : Q (.int k) h) : Wp w B A (call (.builtin "list.index") [.ref 167, .str n.s t]) ρ s Q := by
  have g := hr.base _ _ tb.kinds
  have he : ∀ y, y ∈ #[Value.str (N.s .initial) 417, .str (N.s .zero) 418, .str (N.s .handshake) 419, .str (N.s .retry) 420] → EqAt A.in1 s y (.str n.s t) (y.isStr n.s) := fun y hy => by
    simp only [List.mem_toArray, List.mem_cons, List.not_mem_nil, or_false] at hy
    rcases hy with rfl | rfl | rfl | rfl <;> exact EqAt.str_str _ _ _ _
  have go : ∀ (j : Nat) (hj : j < 4), (#[Value.str (N.s .initial) 417, .str (N.s .zero) 418, .str (N.s .handshake) 419, .str (N.s .retry) 420][j]'hj).isStr n.s = true →
      (∀ m (hm : m < 4), m < j → (#[Value.str (N.s .initial) 417, .str (N.s .zero) 418, .str (N.s .handshake) 419, .str (N.s .retry) 420][m]'hm).isStr n.s = false) → Q (.int j) h →
      Wp w B A (call (.builtin "list.index") [.ref 167, .str n.s t]) ρ s Q := fun j hj h1 h2 q =>
    call_meets F.slot_list_index ⟨_, g, rfl⟩ F.entry_list_index (F.args_list_index_2 _ _) (list_indexAt 167 #[Value.str (N.s .initial) 417, .str (N.s .zero) 418, .str (N.s .handshake) 419, .str (N.s .retry) 420] 0 none #[] _ (fun y => y.isStr n.s) j hj (by (first | lia | omega)) h1 h2) ⟨g, he, PE.val hr q ⟨_, rfl⟩⟩
  cases n <;> first | exact nomatch (show (none : Option Nat) = some k from e) | skip
  · have : k = 0 := (Option.some.inj (show some 0 = some k from e)).symm
    subst this
    exact go 0 (by (first | lia | omega)) (by decide +kernel) (fun m _ hm => by (first | lia | omega)) q
  · have : k = 1 := (Option.some.inj (show some 1 = some k from e)).symm
    subst this
    exact go 1 (by (first | lia | omega)) (by decide +kernel) (fun m _ hm => by (have : m = 0 := by (first | lia | omega)); subst this; decide +kernel +revert) q
  · have : k = 2 := (Option.some.inj (show some 2 = some k from e)).symm
    subst this
    exact go 2 (by (first | lia | omega)) (by decide +kernel) (fun m _ hm => by rcases (show m = 0 ∨ m = 1 by (first | lia | omega)) with rfl | rfl <;> decide +kernel +revert) q
  · have : k = 3 := (Option.some.inj (show some 3 = some k from e)).symm
    subst this
    exact go 3 (by (first | lia | omega)) (by decide +kernel) (fun m _ hm => by rcases (show m = 0 ∨ m = 1 ∨ m = 2 by (first | lia | omega)) with rfl | rfl | rfl <;> decide +kernel +revert) q
theorem sizes_index (tb : Tabs B) {i : Int} {k : Nat} {t : Tok} (hr : HR w B ρ h s) (e : posOf (.int i) sizesL = some k) (q : Q (.int k) h) : Wp w B A (call (.builtin "tuple.index") [.ref 75, .int i t]) ρ s Q := by
  have g := hr.base _ _ tb.sizes
  have hT : s.TypeIs (.ref 75) "tuple" := ⟨_, g, rfl⟩
  refine wpAny_call_entry F.slot_tuple_index hT F.entry_tuple_index ?_ (F.args_tuple_index_2 _ _)
  unfold Builtin.«tuple.index»
  refine wpAny_bind (wpAny_of_eq (a := (Value.ref 75, [Value.int i t])) rfl ?_)
  dsimp only
  refine wpAny_bind (tupleItemsOf_ ⟨_, g, rfl, _, rfl⟩ ?_)
  refine wpAny_bind (wpAny_pure ?_)
  refine wpAny_bind (wpAny_pure ?_)
  refine wpAny_bind ?_
  rw [Std.Legacy.Range.forIn_eq_forIn_range']
  show wpAny _ _ (forIn (List.range' 0 4 1) _ _) _ _ _
  simp only [List.range'_succ, List.range'_zero, List.forIn_cons, List.forIn_nil]
  have hk : (i = 1 ∧ k = 0) ∨ (i = 2 ∧ k = 1) ∨ (i = 4 ∧ k = 2) ∨ (i = 8 ∧ k = 3) := by
    simp only [posOf, sizesL, V.int.injEq] at e
    repeat' split at e
    all_goals simp at e
    all_goals (first | lia | omega)
  rcases hk with ⟨rfl, rfl⟩ | ⟨rfl, rfl⟩ | ⟨rfl, rfl⟩ | ⟨rfl, rfl⟩
  · refine wpAny_bind (wpAny_bind (EqAt.int_int _ _ _ _ _ _ _ _ ?_))
    refine wpAny_ite (ite_yes' (by decide) ?_)
    refine wpAny_bind (wpAny_bind (wpAny_mkInt (wpAny_pure (wpAny_pure (wpAny_pure (wpAny_pure ⟨_, rfl, PE.val hr q ⟨_, rfl⟩⟩))))))
  · refine wpAny_bind (wpAny_bind (EqAt.int_int _ _ _ _ _ _ _ _ ?_))
    refine wpAny_ite (KBy.ite_no (by decide) (wpAny_pure ?_))
    dsimp only
    refine wpAny_bind (wpAny_bind (EqAt.int_int _ _ _ _ _ _ _ _ ?_))
    refine wpAny_ite (ite_yes' (by decide) ?_)
    refine wpAny_bind (wpAny_bind (wpAny_mkInt (wpAny_pure (wpAny_pure (wpAny_pure (wpAny_pure ⟨_, rfl, PE.val hr q ⟨_, rfl⟩⟩))))))
  · refine wpAny_bind (wpAny_bind (EqAt.int_int _ _ _ _ _ _ _ _ ?_))
    refine wpAny_ite (KBy.ite_no (by decide) (wpAny_pure ?_))
    dsimp only
    refine wpAny_bind (wpAny_bind (EqAt.int_int _ _ _ _ _ _ _ _ ?_))
    refine wpAny_ite (KBy.ite_no (by decide) (wpAny_pure ?_))
    dsimp only
    refine wpAny_bind (wpAny_bind (EqAt.int_int _ _ _ _ _ _ _ _ ?_))
    refine wpAny_ite (ite_yes' (by decide) ?_)
    refine wpAny_bind (wpAny_bind (wpAny_mkInt (wpAny_pure (wpAny_pure (wpAny_pure (wpAny_pure ⟨_, rfl, PE.val hr q ⟨_, rfl⟩⟩))))))
  · refine wpAny_bind (wpAny_bind (EqAt.int_int _ _ _ _ _ _ _ _ ?_))
    refine wpAny_ite (KBy.ite_no (by decide) (wpAny_pure ?_))
    dsimp only
    refine wpAny_bind (wpAny_bind (EqAt.int_int _ _ _ _ _ _ _ _ ?_))
    refine wpAny_ite (KBy.ite_no (by decide) (wpAny_pure ?_))
    dsimp only
    refine wpAny_bind (wpAny_bind (EqAt.int_int _ _ _ _ _ _ _ _ ?_))
    refine wpAny_ite (KBy.ite_no (by decide) (wpAny_pure ?_))
    dsimp only
    refine wpAny_bind (wpAny_bind (EqAt.int_int _ _ _ _ _ _ _ _ ?_))
    refine wpAny_ite (ite_yes' (by decide) ?_)
    refine wpAny_bind (wpAny_bind (wpAny_mkInt (wpAny_pure (wpAny_pure (wpAny_pure (wpAny_pure ⟨_, rfl, PE.val hr q ⟨_, rfl⟩⟩))))))
end
end Mine
end
section
set_option maxRecDepth 100000
namespace Mine
open PySem PySem.W PyProof.Rows PySem.SeqAt
/- ==== what the two classes are like ==== -/
noncomputable def C.all : List C := [.reader, .raw]
theorem cls_get (P : Params) (c : C) : findIn (K P) (.ref (clsA c)) "__getattribute__" = some (some (.builtin "object.__getattribute__")) ∧ findIn (K P) (.ref (clsA c)) "__getattr__" = some none := by
  cases c <;> exact ⟨by kernel_rfl, by kernel_rfl⟩
theorem cls_set (P : Params) (c : C) : findIn (K P) (.ref (clsA c)) "__setattr__" = some (some (.builtin "object.__setattr__")) := by cases c <;> kernel_rfl
theorem cls_dict (P : Params) (c : C) : hasDictIn (K P) (clsA c) = true := by cases c <;> kernel_rfl
theorem cls_over (P : Params) (c : C) : plainOver (K P) (clsA c) = true := by cases c <;> kernel_rfl
theorem cls_name (P : Params) {c : C} {n : N} (h : attrOk c n = true) : findIn (K P) (.ref (clsA c)) n.s = some none := by
  cases c <;> cases n <;> (first | (exact absurd h (by decide)) | kernel_rfl)
theorem cls_meth (P : Params) {f : Nat} {c : C} {n : Str} (h : methN f = some (c, n)) : findIn (K P) (.ref (clsA c)) n = some (some (.ref f)) ∧ isFn (K P) (.ref f) = true ∧ ∀ m : N, m.s ≠ n := by
  unfold methN at h
  split at h <;> cases h <;> exact ⟨by kernel_rfl, by kernel_rfl, fun m => by cases m <;> decide +kernel⟩
section
variable {w : World} {B : Heap} {A : Around} {ρ ρ₁ : R} {h h₁ : H} {s s₁ : Shared} {Q Q₁ : K1}
theorem isStr_s (n m : N) (t : Tok) : (Value.str n.s t).isStr m.s = decide (n = m) := N.beq_s n m
theorem REs.getL {n : N} {x : V} : ∀ {fs : List (N × V)} {es : List DictEntry}, REs w ρ fs es → getN n fs = some x → ∃ v, getL n.s es = some (some v) ∧ RV ρ x v
  | [], [], _, e => nomatch e
  | (m, y) :: fs, c :: es, r, e => by
    refine hide fun gp gg => ?_; obtain ⟨⟨r0, ⟨t, r1⟩, r2⟩, r3⟩ := r; refine gg ?_; clear gg gp
    unfold getN at e
    unfold PySem.W.getL
    rw [List.find?_cons, r1, isStr_s]
    dsimp only at e
    by_cases hm : m = n
    · rw [if_pos hm] at e; cases e
      rw [decide_eq_true hm]
      exact ⟨_, rfl, r2⟩
    · rw [if_neg hm] at e
      rw [decide_eq_false hm]
      obtain ⟨v, g, rv⟩ := REs.getL r3 e
      refine ⟨v, ?_, rv⟩
      unfold PySem.W.getL at g
      dsimp only
      cases q : es.find? (·.key.isStr n.s) with
      | some c' => rw [q] at g; exact g
      | none => rw [q] at g; dsimp only at g; split at g <;> cases g
  | [], _ :: _, r, _ => r.elim
  | _ :: _, [], r, _ => r.elim
theorem REs.find_none {n : Str} (hn : ∀ m : N, m.s ≠ n) : ∀ {fs : List (N × V)} {es : List DictEntry}, REs w ρ fs es → es.find? (·.key.isStr n) = none ∧ es.any (·.refKey) = false
  | [], [], _ => ⟨rfl, rfl⟩
  | (m, y) :: fs, c :: es, r => by
    refine hide fun gp gg => ?_; obtain ⟨⟨r0, ⟨t, r1⟩, r2⟩, r3⟩ := r; refine gg ?_; clear gg gp
    obtain ⟨i1, i2⟩ := REs.find_none hn r3
    have hs : c.key.isStr n = false := by rw [r1]; exact beq_eq_false_iff_ne.mpr (hn m)
    have hk : c.refKey = false := by unfold DictEntry.refKey; rw [r1]
    exact ⟨by rw [List.find?_cons, hs]; exact i1, by rw [List.any_cons, hk, i2]; rfl⟩
  | [], _ :: _, r => r.elim
  | _ :: _, [], r => r.elim
theorem REs.norefs : ∀ {fs : List (N × V)} {es : List DictEntry}, REs w ρ fs es → es.any (·.refKey) = false
  | [], [], _ => rfl
  | (m, y) :: fs, c :: es, r => by
    refine hide fun gp gg => ?_; obtain ⟨⟨r0, ⟨t, r1⟩, r2⟩, r3⟩ := r; refine gg ?_; clear gg gp
    have hk : c.refKey = false := by unfold DictEntry.refKey; rw [r1]
    rw [List.any_cons, hk, REs.norefs r3]; rfl
  | [], _ :: _, r => r.elim
  | _ :: _, [], r => r.elim
theorem REs.putL {n : N} {x : V} {v : Value} {t : Tok} (rv : RV ρ x v) : ∀ {fs : List (N × V)} {es : List DictEntry}, REs w ρ fs es → REs w ρ (putF n x fs) (putL n.s (PyData.keyHash w.params n.s) (.str n.s t) v es)
  | [], [], _ => ⟨⟨rfl, ⟨t, rfl⟩, rv⟩, trivial⟩
  | (m, y) :: fs, c :: es, r => by
    refine hide fun gp gg => ?_; obtain ⟨⟨r0, ⟨t', r1⟩, r2⟩, r3⟩ := r; refine gg ?_; clear gg gp
    unfold putF PySem.W.putL
    rw [r1, isStr_s]
    by_cases hm : m = n
    · rw [if_pos hm, if_pos (by rw [decide_eq_true hm])]
      exact ⟨⟨r0, ⟨t', rfl⟩, rv⟩, r3⟩
    · rw [if_neg hm, if_neg (by rw [decide_eq_false hm]; exact Bool.false_ne_true)]
      exact ⟨⟨r0, ⟨t', r1⟩, r2⟩, REs.putL rv r3⟩
  | [], _ :: _, r => r.elim
  | _ :: _, [], r => r.elim
theorem REs.length : ∀ {fs : List (N × V)} {es : List DictEntry}, REs w ρ fs es → fs.length = es.length
  | [], [], _ => rfl
  | (_, _) :: _, _ :: _, r => congrArg (· + 1) (REs.length r.2)
  | [], _ :: _, r => r.elim
  | _ :: _, [], r => r.elim
theorem putF_len (n : N) (y : V) : ∀ fs : List (N × V), (putF n y fs).length ≤ fs.length + 1
  | [] => Nat.le_refl _
  | p :: r => by
    have := putF_len n y r
    unfold putF
    split
    · simp
    · simp; (first | lia | omega)
theorem HR.K (hr : HR w B ρ h s) (bs : Base w B) : (K w.params).In s.heap := fun a o e => hr.base _ _ (bs.k a o e)
theorem handed {x : V} {v : Value} (r : RV ρ x v) : handedIn v = true := by
  cases x <;> first | (obtain ⟨_, rfl⟩ := r; rfl) | (obtain ⟨_, _, rfl⟩ := r; rfl) | (have e : v = _ := r; rw [e]; rfl)
/-- o.n -/
theorem attr_ok (bs : Base w B) {x : V} {n : N} {vx : Value} {expr : Bool} (hr : HR w B ρ h s) (rx : RV ρ x vx) (q : wpAttr x n h Q) :
    Wp w B A (getAttr vx n.s expr) ρ s Q := by
  unfold wpAttr at q
  cases x <;> (try exact q.elim)
  rename_i k
  cases e : h[k]? with
  | none => simp only [e] at q
  | some o =>
    simp only [e] at q
    refine hide fun gp gg => ?_; obtain ⟨p, hp, rfl, ro⟩ := hr.val e rx; refine gg ?_; clear gg gp
    cases o <;> (try exact q.elim)
    rename_i c fs
    refine hide fun gp gg => ?_; obtain ⟨es, nn, g1, g2, re⟩ := ro; refine gg ?_; clear gg gp
    dsimp only at q
    cases eg : getN n fs with
    | none => simp only [eg] at q
    | some y =>
      simp only [eg] at q
      obtain ⟨hn, q⟩ := q
      obtain ⟨v, hv, rv⟩ := re.getL eg
      have I : InstAt s.heap p.1 (instObj (clsA c) p.2) (clsA c) (some (dictOf es nn)) := ⟨g1, rfl, rfl, g2⟩
      exact get_value (hr.K bs) I (cls_get _ c).1 (findObj_own (cls_dict _ c) (cls_name _ hn) rfl hv) (handed rv) (PE.val hr q rv)
/-- o.n = v -/
theorem setattr_ok (bs : Base w B) {x y : V} {n : N} {vx vy : Value} {Q : H → Prop} (hr : HR w B ρ h s) (rx : RV ρ x vx) (ry : RV ρ y vy) (q : wpSetAttr x n y h Q) :
    wpAny (model pw w) A (setAttr vx n.s vy) (fun _ s' => ∃ h', Q h' ∧ HR w B ρ h' s' ∧ Step ρ ρ s s') no s := by
  unfold wpSetAttr at q
  cases x <;> (try exact q.elim)
  rename_i k
  cases e : h[k]? with
  | none => simp only [e] at q
  | some o =>
    simp only [e] at q
    refine hide fun gp gg => ?_; obtain ⟨p, hp, rfl, ro⟩ := hr.val e rx; refine gg ?_; clear gg gp
    cases o <;> (try exact q.elim)
    rename_i c fs
    refine hide fun gp gg => ?_; obtain ⟨es, nn, g1, g2, re⟩ := ro; refine gg ?_; clear gg gp
    have X := hr.K bs
    have hc := cls_name w.params q.1.1
    have I : InstAt s.heap p.1 (instObj (clsA c) p.2) (clsA c) (some (dictOf es nn)) := ⟨g1, rfl, rfl, g2⟩
    refine set_plain X I (cls_set _ c) (osa_open (s := { s with toks := s.toks + 1 }) X I (cls_over _ c) (by unfold takerIn; rw [hc]; rfl) fun b => ?_)
    obtain ⟨cd, hcd, hdd⟩ := any_some (cls_dict w.params c)
    have g2' : (s.heap.update p.2 (Obj.putName n.s (PyData.keyHash w.params n.s) (.str n.s (s.toks + 1)) vy)).get? p.2 = some (dictOf (putL n.s (PyData.keyHash w.params n.s) (.str n.s (s.toks + 1)) vy es) (putN n.s es nn)) := by
      rw [Heap.get?_update_self _ g2 (by rw [putName_dict]; rfl), putName_dict]
    refine wpAny_bind (wpAny_pure (wpAny_bind (wpAny_bind (wpAny_loadPart g1 (wpAny_bind (Looks.here (s := { s with toks := s.toks + 1 }) (looks_clsIn X hcd) ?_))))))
    rw [hdd]
    refine wpAny_pure (a := some p.2) (wpAny_bind (wpAny_pure (wpAny_bind ?_)))
    unfold nsSet
    refine wpAny_bind (wpAny_bind (wpAny_askSetting (wpAny_pure (wpAny_bind (wpAny_mkText (wpAny_bind (wpAny_loadPart g2 ?_)))))))
    dsimp only
    have c0 : (!es.toArray.any (·.key.isStr n.s) && es.toArray.any (·.refKey)) = false := by
      rw [← Array.any_toList, ← Array.any_toList]
      show (_ && es.any (·.refKey)) = false
      rw [re.norefs, Bool.and_false]
    rw [aRefKeyMayBeTheName_at, c0]
    refine wpAny_updatePart g2 ?_
    refine wpAny_bind (wpAny_lookBehind g2' (pastItsLine_dict (by
      rw [List.size_toArray, sizeLine_eq]
      have l1 := (REs.putL (n := n) (t := s.toks + 1) ry re).length
      have l2 := putF_len n y fs
      have := q.1.2
      (first | lia | omega))) ?_)
    refine wpAny_pure ?_
    have ne : p.1 ≠ p.2 := fun e' => by rw [e', g2] at g1; cases g1
    obtain ⟨a1, a2⟩ := hr.upd (tk := s.toks + 1 + 1) (h' := s.heap.update p.2 (Obj.putName n.s (PyData.keyHash w.params n.s) (.str n.s (s.toks + 1)) vy)) e hp (fun _ _ => nofun)
      (fun b o _ hb eo => (Heap.SameBut.update ..).extBut b o hb eo) (o' := .inst c (putF n y fs)) ⟨_, _, (Heap.SameBut.update ..).extBut _ _ ne g1, g2', REs.putL ry re⟩
    exact ⟨_, q.2, a1, a2⟩
theorem setitem_ok {x y v : V} {vx vy vv : Value} {Q : H → Prop} (hr : HR w B ρ h s) (rx : RV ρ x vx) (ry : RV ρ y vy) (rv : RV ρ v vv) (q : wpSetItem x y v h Q) :
    wpAny (model pw w) A (setItem vx vy vv) (fun _ s' => ∃ h', Q h' ∧ HR w B ρ h' s' ∧ Step ρ ρ s s') no s := by
  unfold wpSetItem at q
  cases x <;> (try exact q.elim)
  rename_i k
  cases e : h[k]? with
  | none => simp only [e] at q
  | some o =>
    simp only [e] at q
    refine hide fun gp gg => ?_; obtain ⟨p, hp, rfl, ro⟩ := hr.val e rx; refine gg ?_; clear gg gp
    cases o <;> (try exact q.elim)
    · cases y <;> (try exact q.elim)
      rename_i l i
      obtain ⟨u, rfl⟩ := ry
      refine hide fun gp gg => ?_; obtain ⟨z, a, n, g, rl⟩ := ro; refine gg ?_; clear gg gp
      have len := rl.length
      simp only [Array.length_toList] at len
      refine hide fun gp gg => ?_; obtain ⟨⟨q1, q2, q3⟩, q⟩ := q; refine gg ?_; clear gg gp
      refine ki_setAt (n := n) g q1 (by (first | lia | omega)) (by (first | lia | omega)) ?_
      have e' : (s.heap.update p.1 (Obj.mapSeq (·.setIfInBounds i.toNat vv))).get? p.1 = some { cls := .type "list", data := .seq (a.setIfInBounds i.toNat vv) n } := by
        rw [Heap.get?_update_self _ g (by simp only [Obj.mapSeq]; rfl)]
        simp [Obj.mapSeq]
      obtain ⟨a1, a2⟩ := hr.upd (tk := s.toks) (h' := s.heap.update p.1 (Obj.mapSeq (·.setIfInBounds i.toNat vv))) e hp (fun _ _ => nofun) (fun b o hb _ eo => (Heap.SameBut.update ..).extBut b o hb eo)
        (o' := .list (l.set i.toNat v)) ⟨z, _, _, e', by rw [Array.toList_setIfInBounds]; exact rl.set _ rv⟩
      exact ⟨_, q, a1, a2⟩
    · cases y <;> (try exact q.elim)
      rename_i kv n
      obtain ⟨u, rfl⟩ := ry
      refine hide fun gp gg => ?_; obtain ⟨z, kvs, ob, g, id, rd⟩ := ro; refine gg ?_; clear gg gp
      have hm : s.heap.DictOf (strKind pw w) p.1 kvs := Heap.dictOf_iff.mpr ⟨ob, g, id⟩
      refine wpAny_setItem_pairs (strKind_is _ _ _ _) hm (fun h' hm' hs => ?_) (by rw [sizeLine_eq]; have := rd.length; have := q.1; (first | lia | omega))
      obtain ⟨ob', g', id'⟩ := Heap.dictOf_iff.mp hm'
      obtain ⟨a1, a2⟩ := hr.upd (tk := s.toks + 1) (h' := h') e hp (fun _ _ => nofun) (fun b o hb _ eo => hs.extBut b o hb eo) (o' := .dict (putN' n v kv)) ⟨z, _, _, g', id', rd.stored rv⟩
      exact ⟨_, q.2, a1, a2⟩
    · cases y <;> (try exact q.elim)
      cases v <;> (try exact q.elim)
      rename_i b i x
      obtain ⟨t, rfl⟩ := ry
      obtain ⟨u, rfl⟩ := rv
      refine hide fun gp gg => ?_; obtain ⟨⟨q1, q2, q3, q4, q5⟩, q⟩ := q; refine gg ?_; clear gg gp
      obtain ⟨z, g⟩ := ro
      refine BA.setItem g (by simpa using q5) q1 (by simpa using q2) q3 q4 fun h' g' hs => ?_
      obtain ⟨a1, a2⟩ := hr.upd (tk := s.toks) (h' := h') e hp (fun _ _ => nofun) (fun b o hb _ eo => hs.extBut b o hb eo) (o' := .barr (b.set i.toNat x.toNat.toUInt8)) ⟨z, by rw [g']; simp⟩
      exact ⟨_, q, a1, a2⟩
theorem octets_ints : ∀ {l : List V} {b : List UInt8} {vs : List Value}, octetsOf l = some b → RVs ρ l vs → ∃ ns : List Int, PyProof.Rows.IntsAre vs ns ∧ (∀ n ∈ ns, 0 ≤ n ∧ n < 256) ∧ ns.map (fun n => n.toNat.toUInt8) = b
  | [], _, [], e, _ => by cases e; exact ⟨[], .nil, fun _ h => (nomatch h), rfl⟩
  | x :: l, b, v :: vs, e, r => by
    unfold octetsOf at e
    cases x <;> (try cases e)
    rename_i i
    dsimp only at e
    split at e
    · rename_i hi
      cases e2 : octetsOf l with
      | none => rw [e2] at e; cases e
      | some b2 =>
        rw [e2] at e
        cases e
        obtain ⟨⟨t, rfl⟩, r2⟩ := r
        refine hide fun gp gg => ?_; obtain ⟨ns, h1, h2, h3⟩ := octets_ints e2 r2; refine gg ?_; clear gg gp
        exact ⟨i :: ns, .cons i t h1, fun n hn => by rcases List.mem_cons.mp hn with rfl | hn; exact hi; exact h2 n hn, by rw [List.map_cons, h3]⟩
    · cases e
  | [], _, _ :: _, _, r => r.elim
  | _ :: _, _, [], _, r => r.elim
theorem bytes_ok {x : V} {vx : Value} (R0 : Room A 0) (hr : HR w B ρ h s) (rx : RV ρ x vx) (q : wpBytes x h Q) : Wp w B A (call (.type "bytes") [vx]) ρ s Q := by
  unfold wpBytes at q
  cases x <;> (try exact q.elim)
  rename_i k
  cases e : h[k]? with
  | none => simp only [e] at q
  | some o =>
    simp only [e] at q
    refine hide fun gp gg => ?_; obtain ⟨p, hp, rfl, ro⟩ := hr.val e rx; refine gg ?_; clear gg gp
    cases o <;> (try exact q.elim)
    · rename_i l
      cases eo : octetsOf l with
      | none => simp only [eo] at q
      | some b =>
        simp only [eo] at q
        refine hide fun gp gg => ?_; obtain ⟨z, a, n, g, rl⟩ := ro; refine gg ?_; clear gg gp
        refine hide fun gp gg => ?_; obtain ⟨ns, h1, h2, h3⟩ := octets_ints eo rl; refine gg ?_; clear gg gp
        have hl : b.length = a.toList.length := by rw [← h3, List.length_map, ← h1.length]
        refine call_bytes_ints (vs := a.toList) (by rw [Array.toArray_toList]; exact isList_of g) h1 h2 (by rw [sizeLine_eq]; have := q.1; (first | lia | omega)) R0.handled fun h' t k hk => PE.more hr hk q.2 ⟨by have := q.1; (first | lia | omega), t, ?_⟩
        unfold byteArr; rw [h3]
    · obtain ⟨z, g⟩ := ro
      exact BA.bytes g (by simpa using q.1) fun t k => PE.val hr q.2 ⟨by have := q.1; (first | lia | omega), t, rfl⟩
theorem bytesOf_at : ∀ {l : List V} {bs : List (List UInt8)} {vs : List Value}, bytesOf l = some bs → RVs ρ l vs → bs.length = vs.length ∧ ∀ (i : Nat) (b : List UInt8), bs[i]? = some b → ∃ u, vs[i]? = some (Value.bytes b.toArray u)
  | [], _, [], e, _ => by cases e; exact ⟨rfl, fun i b h => by simp at h⟩
  | x :: l, bs, v :: vs, e, r => by
    unfold bytesOf at e
    cases x <;> (try cases e)
    rename_i b0
    dsimp only at e
    cases e2 : bytesOf l with
    | none => rw [e2] at e; cases e
    | some b2 =>
      rw [e2] at e
      cases e
      refine hide fun gp gg => ?_; obtain ⟨⟨_, t, rfl⟩, r2⟩ := r; refine gg ?_; clear gg gp
      obtain ⟨i1, i2⟩ := bytesOf_at e2 r2
      refine ⟨by simp [i1], fun i b hb => ?_⟩
      cases i with
      | zero => simp at hb; subst hb; exact ⟨t, rfl⟩
      | succ i => exact i2 i b (by simpa using hb)
  | [], _, _ :: _, _, r => r.elim
  | _ :: _, _, [], _, r => r.elim
theorem join_ok {k : Nat} {vs : List V} {bs : List (List UInt8)} {vy : Value} {t : Tok} (hr : HR w B ρ h s) (ry : RV ρ (.obj k) vy) (e : h[k]? = some (.list vs)) (eb : bytesOf vs = some bs) (h2 : 2 ≤ bs.length) (hz : bs.flatten.length ≤ 1000000)
    (q : Q (.bytes bs.flatten) h) : Wp w B A (call (.builtin "bytes.join") [.bytes #[] t, vy]) ρ s Q := by
  refine hide fun gp gg => ?_; obtain ⟨p, hp, rfl, z, a, n, g, rl⟩ := hr.val e ry; refine gg ?_; clear gg gp
  obtain ⟨i1, i2⟩ := bytesOf_at eb rl
  exact BJ.join (vs := a.toList) (by rw [Array.toArray_toList]; exact g) i2 i1 (by (first | lia | omega)) hz fun t k => PE.val hr q ⟨by (first | lia | omega), t, rfl⟩
theorem RDs.putAll : ∀ {kw : List (N × V)} {kv : List (N × V)} {kvs kws : List (Str × Value)}, RDs ρ kv kvs → RDs ρ kw kws → RDs ρ (Mine.putAll kv kw) (merged kvs kws)
  | [], _, _, [], r, _ => r
  | (n, x) :: kw, kv, kvs, c :: kws, r, r' => by
    obtain ⟨⟨e, rv⟩, r2⟩ := r'
    show RDs ρ (Mine.putAll (putN' n x kv) kw) (merged (PySem.stored kvs c.1 c.2) kws)
    rw [e]
    exact RDs.putAll (r.stored rv) r2
  | [], _, _, _ :: _, _, r => r.elim
  | _ :: _, _, _, [], _, r => r.elim
theorem call_update {prog : Program} {w : World} {K : Type} [DecidableEq K] {knd : KeyKind prog w K} {A : Around} {E : Value → Shared → Prop} {s : Shared} {d o : Addr} {kvs more : List (K × Value)} {Q : Value → Shared → Prop}
    (hd : s.heap.DictOf knd d kvs) (ho : s.heap.DictOf knd o more) (ne : d ≠ o) (lo : (o == sysModules) = false) (hz : kvs.length + more.length ≤ sizeLine)
    (h : ∀ h', h'.DictOf knd d (merged kvs more) → Heap.SameBut d s.heap h' → Q .none { s with heap := h' }) : wpAny (model prog w) A (call (.builtin "dict.update") [.ref d, .ref o]) Q E s :=
  call_meetsIn PySem.F.slot_dict_update hd.typeIs PySem.F.entry_dict_update (PySem.F.args_dict_update_2 _ _) (meets_dict_update knd d o ne lo) ⟨kvs, more, hd, ho, hz, fun h' hm _ hs => h h' hm hs⟩
theorem update_ok {i j : Nat} {kv kw : List (N × V)} {vx vy : Value} (hr : HR w B ρ h s) (rx : RV ρ (.obj i) vx) (ry : RV ρ (.obj j) vy) (ei : h[i]? = some (O.dict kv)) (ej : h[j]? = some (O.dict kw)) (ne : i ≠ j)
    (hz : kv.length + kw.length < 100) (q : Q .none (h.set i (O.dict (Mine.putAll kv kw)))) : Wp w B A (call (.builtin "dict.update") [vx, vy]) ρ s Q := by
  refine hide fun gp gg => ?_; obtain ⟨p, hp, rfl, z, kvs, ob, g, id, rd⟩ := hr.val ei rx; refine gg ?_; clear gg gp
  refine hide fun gp gg => ?_; obtain ⟨p', hp', rfl, z', kvs', ob', g', id', rd'⟩ := hr.val ej ry; refine gg ?_; clear gg gp
  have hm : s.heap.DictOf (strKind pw w) p.1 kvs := Heap.dictOf_iff.mpr ⟨ob, g, id⟩
  have hm' : s.heap.DictOf (strKind pw w) p'.1 kvs' := Heap.dictOf_iff.mpr ⟨ob', g', id'⟩
  have ap := (hr.apart i j p p' hp hp' ne).1
  have fr := (hr.fresh j p' (O.dict kw) hp' ej (fun _ _ e => by cases e)).2.1
  have lo : (p'.1 == sysModules) = false := beq_eq_false_iff_ne.mpr fun e => by rw [e] at fr; exact absurd fr (by decide)
  refine call_update hm hm' ap lo (by rw [sizeLine_eq, ← rd.length, ← rd'.length]; (first | lia | omega)) fun h' hmm hs => ?_
  obtain ⟨ob2, g2, id2⟩ := Heap.dictOf_iff.mp hmm
  obtain ⟨a1, a2⟩ := hr.upd (tk := s.toks) (h' := h') ei hp (fun _ _ e => by cases e) (fun b o hb _ eo => hs.extBut b o hb eo) (o' := O.dict (Mine.putAll kv kw)) ⟨z, _, _, g2, id2, RDs.putAll rd rd'⟩
  exact ⟨.none, _, _, q, rfl, a1, a2⟩
end
end Mine
end
section
set_option maxRecDepth 100000
namespace Mine
open PySem PySem.W PyProof.Rows PySem.SeqAt
/- ==== the text's names ==== -/
noncomputable def fnS : List (Nat × String) := [(82, "put_whole"), (89, "get_whole"), (96, "varint_size"), (103, "put_varint"), (110, "get_varint"), (195, "put_ids"), (202, "long_first"), (209, "long_head"), (214, "put_negotiation"),
  (221, "put_retry"), (228, "read_invariants"), (235, "read_versions"), (242, "read_long"), (249, "read_retry"), (256, "read_numbered"), (263, "read_short"), (270, "read_raw"), (277, "split_datagram"), (284, "mixed_octets"),
  (291, "turned_octets"), (298, "tag_of"), (305, "seal_payload"), (312, "head_mask"), (319, "turned_first"), (324, "turned_number"), (331, "sample_at"), (338, "padded_payload"), (345, "protected_packet"), (352, "wants_negotiation"),
  (359, "negotiation_answer"), (366, "chosen_version"), (373, "retry_tag"), (380, "put_retry_packet"), (387, "takes_retry"), (394, "token_for"), (401, "check_token"), (408, "number_size"), (415, "cut_number"), (422, "short_head"),
  (429, "head_of"), (436, "number_in"), (443, "put_packet"), (450, "bare_packet"), (457, "_law_take"), (464, "_law_other"), (471, "_law_first"), (476, "_law_versions"), (483, "_law_retry"), (490, "_law_server_right"), (495, "law")]
noncomputable def fnT : List (Nat × Str) := fnS.map fun p => (p.1, Str.ofString p.2)
noncomputable def clsName : C → Str
  | .reader => "Reader"
  | .raw => "RawPacket"
noncomputable def cstT : List (Str × V) := [("INTERNAL_ERROR", .int 1), ("VERSION_ONE", .int 1), ("VERSION_NONE", .int 0), ("MOST_CID", .int 20), ("RETRY_TAG", .int 16), ("TAG_SIZE", .int 16), ("SAMPLE_SIZE", .int 16), ("MASK_SIZE", .int 5),
  ("MODULUS", .int 170141183460469231731687303715884105727), ("FACTOR", .int 6364136223846793005), ("RETRY_KEY", .bytes [114, 101, 116, 114, 121]), ("LEAST_INITIAL", .int 1200), ("MOST_OCTETS", .int 4), ("VARINT_SIZES", .sizes), ("LONG_KINDS", .kinds)]
noncomputable def matchesV : V → Value → Bool
  | .int i, .int j _ => i == j
  | .bytes b, .bytes c _ => b.toArray == c && decide (b.length ≤ 1000)
  | .sizes, .ref a => a == 75
  | .kinds, .ref a => a == 167
  | _, _ => false
theorem matchesV_ok {ρ : R} {x : V} {v : Value} (h : matchesV x v = true) : RV ρ x v := by
  have no : ∀ {p : Prop}, false = true → p := fun e => nomatch e
  cases x with
  | int i => cases v with
    | int j _ => rw [beq_iff_eq.mp h]; exact ⟨_, rfl⟩
    | _ => exact no h
  | bytes b => cases v with
    | bytes c _ =>
      refine and2 h fun h1 h2 => ?_
      rw [← beq_iff_eq.mp h1]
      exact ⟨by have := of_decide_eq_true h2; (first | lia | omega), _, rfl⟩
    | _ => exact no h
  | sizes => cases v with
    | ref a => rw [beq_iff_eq.mp h]; rfl
    | _ => exact no h
  | kinds => cases v with
    | ref a => rw [beq_iff_eq.mp h]; rfl
    | _ => exact no h
  | _ => exact no h
noncomputable def fnGood (K : Frag) (p : Nat × Str) : Bool := (nsIn K mainGlobals p.2 == some (some (.ref p.1))) && isFn K (.ref p.1)
noncomputable def cstGood (K : Frag) (p : Str × V) : Bool := match nsIn K mainGlobals p.1 with | some (some v) => matchesV p.2 v | _ => false
theorem fn_all (P : Params) : fnT.all (fnGood (K P)) = true := by kernel_rfl
theorem cst_all (P : Params) : cstT.all (cstGood (K P)) = true := by kernel_rfl
theorem cls_all (P : Params) (c : C) : nsIn (K P) mainGlobals (clsName c) = some (some (.ref (clsA c))) := by cases c <;> kernel_rfl
noncomputable def bltT : List Str := ["len", "bytes", "bytearray", "abs", "int", "range", "enumerate"]
theorem blt_all (P : Params) : (bltT.all fun n => nsIn (K P) mainGlobals n == some none) = true := by kernel_rfl
end Mine
end
section
set_option maxRecDepth 100000
namespace Mine
open PySem PySem.W PyProof.Rows PySem.SeqAt
/- ==== does the small expression say what the text says? ==== -/
noncomputable def notSuper : Expr → Bool
  | .Call (.Name _ _) [] [] _ => false
  | _ => true
noncomputable def isVarK : Option NameKind → Bool
  | some .local | some .cell | some .free => true
  | _ => false
noncomputable def okName (x : Str) : Bool := !(x == ("__debug__" : Str)) && !(x == ("__classdict__" : Str))
noncomputable def on {α : Type} (o : Option α) (f : α → Bool) : Bool := match o with | some a => f a | none => false
theorem on_inv {α : Type} {o : Option α} {f : α → Bool} (h : on o f = true) : ∃ a, o = some a ∧ f a = true := by
  cases o with
  | none => cases h
  | some a => exact ⟨a, rfl, h⟩
theorem on_out {α : Type} {o : Option α} {f : α → Bool} {p : Prop} (h : on o f = true) (k : ∀ a, f a = true → p) : p := (on_inv h).elim fun a z => k a z.2
noncomputable def view3 (x : Expr) : Option {t : Str × Nat × Pos // x = .Constant (.str t.1) t.2.1 t.2.2} := match x with | .Constant (.str a0) a1 a2 => some ⟨(a0, a1, a2), rfl⟩ | _ => none
noncomputable def view5 (x : Expr) : Option {t : Str × Pos // x = .Name t.1 t.2} := match x with | .Name a0 a1 => some ⟨(a0, a1), rfl⟩ | _ => none
noncomputable def viewK (o : Option Expr) : Option {t : Str × Nat × Pos // o = some (.Constant (.str t.1) t.2.1 t.2.2)} := o.casesOn none fun x => match view3 x with | some z => some ⟨z.1, congrArg some z.2⟩ | none => none
section
variable (nm : List (Str × NameKind)) (xs : List Str)
noncomputable def gName (n : Str) (x : Expr) : Bool := on (view5 x) fun z => z.1.1 == n && (nm.lookup z.1.1 == some .globalImplicit && okName z.1.1)
noncomputable def mKeys : List N → List (Option Expr) → Bool
  | [], l => l.isEmpty
  | n :: ns, l => match l with | k :: r => on (viewK k) fun z => z.1.1 == n.s && mKeys ns r | [] => false
end
noncomputable def relabelN (nm names : List (Str × NameKind)) : List (Str × NameKind) := names.map fun (n, k) => if k == .free && nm.lookup n == some .cell then (n, .cell) else (n, k)
noncomputable def cXs (xs : List Str) (ts : List Str) (fr : List Nat) : List Str := ts ++ fr.map fun i => xs.getD i default
/-- the scope of a comprehension: its targets, the names that it takes from around -/
noncomputable def scopeFit (nm : List (Str × NameKind)) (xs : List Str) (sc : Scope) (ts : List Str) (fr : List Nat) : Bool :=
  sc.kind == .function && (sc.names.all (fun p => p.2 != .cell) && (sc.names.all (fun p => p.2 != .local || sc.names.lookup p.1 == some .local) &&
  (sc.names.all (fun p => p.2 != .free || fr.any fun i => xs[i]? == some p.1) && (ts.all (fun t => (relabelN nm sc.names).lookup t == some .local) &&
  (fr.all (fun i => decide (i < xs.length) && (sc.names.contains (xs.getD i default, .free) && (nm.lookup (xs.getD i default) == some .cell && (relabelN nm sc.names).lookup (xs.getD i default) == some .cell))) &&
  decide (cXs xs ts fr).Nodup)))))
noncomputable def view0 (x : Expr) : Option {t : Nat × Pos // x = .Constant .none t.1 t.2} := match x with | .Constant .none a0 a1 => some ⟨(a0, a1), rfl⟩ | _ => none
noncomputable def view1 (x : Expr) : Option {t : Bool × Nat × Pos // x = .Constant (.bool t.1) t.2.1 t.2.2} := match x with | .Constant (.bool a0) a1 a2 => some ⟨(a0, a1, a2), rfl⟩ | _ => none
noncomputable def view2 (x : Expr) : Option {t : Int × Nat × Pos // x = .Constant (.int t.1) t.2.1 t.2.2} := match x with | .Constant (.int a0) a1 a2 => some ⟨(a0, a1, a2), rfl⟩ | _ => none
noncomputable def view4 (x : Expr) : Option {t : List UInt8 × Nat × Pos // x = .Constant (.bytes t.1) t.2.1 t.2.2} := match x with | .Constant (.bytes a0) a1 a2 => some ⟨(a0, a1, a2), rfl⟩ | _ => none
noncomputable def view6 (x : Expr) : Option {t : Expr × Operator × Expr × Pos // x = .BinOp t.1 t.2.1 t.2.2.1 t.2.2.2} := match x with | .BinOp a0 a1 a2 a3 => some ⟨(a0, a1, a2, a3), rfl⟩ | _ => none
noncomputable def view7 (x : Expr) : Option {t : Expr × Pos // x = .UnaryOp .USub t.1 t.2} := match x with | .UnaryOp .USub a0 a1 => some ⟨(a0, a1), rfl⟩ | _ => none
noncomputable def view8 (x : Expr) : Option {t : Expr × Pos // x = .UnaryOp .Not t.1 t.2} := match x with | .UnaryOp .Not a0 a1 => some ⟨(a0, a1), rfl⟩ | _ => none
noncomputable def view9 (x : Expr) : Option {t : List Expr × Pos // x = .BoolOp .And t.1 t.2} := match x with | .BoolOp .And a0 a1 => some ⟨(a0, a1), rfl⟩ | _ => none
noncomputable def view10 (x : Expr) : Option {t : List Expr × Pos // x = .BoolOp .Or t.1 t.2} := match x with | .BoolOp .Or a0 a1 => some ⟨(a0, a1), rfl⟩ | _ => none
noncomputable def view11 (x : Expr) : Option {t : Expr × CmpOp × Expr × Pos // x = .Compare t.1 [t.2.1] [t.2.2.1] t.2.2.2} := match x with | .Compare a0 [a1] [a2] a3 => some ⟨(a0, a1, a2, a3), rfl⟩ | _ => none
noncomputable def view12 (x : Expr) : Option {t : Expr × CmpOp × CmpOp × Expr × Expr × Pos // x = .Compare t.1 [t.2.1, t.2.2.1] [t.2.2.2.1, t.2.2.2.2.1] t.2.2.2.2.2} := match x with | .Compare a0 [a1, a2] [a3, a4] a5 => some ⟨(a0, a1, a2, a3, a4, a5), rfl⟩ | _ => none
noncomputable def view13 (x : Expr) : Option {t : Expr × Expr × Expr × Pos // x = .IfExp t.1 t.2.1 t.2.2.1 t.2.2.2} := match x with | .IfExp a0 a1 a2 a3 => some ⟨(a0, a1, a2, a3), rfl⟩ | _ => none
noncomputable def view14 (x : Expr) : Option {t : List Expr × Nat × Pos // x = .Tuple t.1 t.2.1 t.2.2} := match x with | .Tuple a0 a1 a2 => some ⟨(a0, a1, a2), rfl⟩ | _ => none
noncomputable def view15 (x : Expr) : Option {t : List Expr × Pos // x = .List t.1 t.2} := match x with | .List a0 a1 => some ⟨(a0, a1), rfl⟩ | _ => none
noncomputable def view16 (x : Expr) : Option {t : List (Option Expr) × List Expr × Pos // x = .Dict t.1 t.2.1 t.2.2} := match x with | .Dict a0 a1 a2 => some ⟨(a0, a1, a2), rfl⟩ | _ => none
noncomputable def view17 (x : Expr) : Option {t : Expr × List Expr × Pos // x = .Call t.1 t.2.1 [] t.2.2} := match x with | .Call a0 a1 [] a2 => some ⟨(a0, a1, a2), rfl⟩ | _ => none
noncomputable def view18 (x : Expr) : Option {t : Expr × Expr × Pos // x = .Call t.1 [t.2.1] [] t.2.2} := match x with | .Call a0 [a1] [] a2 => some ⟨(a0, a1, a2), rfl⟩ | _ => none
noncomputable def view19 (x : Expr) : Option {t : Expr × Str × Pos × List Expr × Pos // x = .Call (.Attribute t.1 t.2.1 t.2.2.1) t.2.2.2.1 [] t.2.2.2.2} := match x with | .Call (.Attribute a0 a1 a2) a3 [] a4 => some ⟨(a0, a1, a2, a3, a4), rfl⟩ | _ => none
noncomputable def view20 (x : Expr) : Option {t : Expr × Str × Pos × Expr × Pos // x = .Call (.Attribute t.1 t.2.1 t.2.2.1) [t.2.2.2.1] [] t.2.2.2.2} := match x with | .Call (.Attribute a0 a1 a2) [a3] [] a4 => some ⟨(a0, a1, a2, a3, a4), rfl⟩ | _ => none
noncomputable def view21 (x : Expr) : Option {t : Expr × Str × Pos × Int × Nat × Pos × Pos // x = .Call (.Attribute t.1 t.2.1 t.2.2.1) [.Constant (.int t.2.2.2.1) t.2.2.2.2.1 t.2.2.2.2.2.1] [] t.2.2.2.2.2.2} := match x with | .Call (.Attribute a0 a1 a2) [.Constant (.int a3) a4 a5] [] a6 => some ⟨(a0, a1, a2, a3, a4, a5, a6), rfl⟩ | _ => none
noncomputable def view22 (x : Expr) : Option {t : Expr × Str × Pos // x = .Attribute t.1 t.2.1 t.2.2} := match x with | .Attribute a0 a1 a2 => some ⟨(a0, a1, a2), rfl⟩ | _ => none
noncomputable def view23 (x : Expr) : Option {t : Expr × Expr × Pos // x = .Subscript t.1 t.2.1 t.2.2} := match x with | .Subscript a0 a1 a2 => some ⟨(a0, a1, a2), rfl⟩ | _ => none
noncomputable def view24 (x : Expr) : Option {t : Expr × Expr × Pos × Pos // x = .Subscript t.1 (.Slice (some t.2.1) none none t.2.2.1) t.2.2.2} := match x with | .Subscript a0 (.Slice (some a1) none none a2) a3 => some ⟨(a0, a1, a2, a3), rfl⟩ | _ => none
noncomputable def view25 (x : Expr) : Option {t : Expr × Expr × Pos × Pos // x = .Subscript t.1 (.Slice none (some t.2.1) none t.2.2.1) t.2.2.2} := match x with | .Subscript a0 (.Slice none (some a1) none a2) a3 => some ⟨(a0, a1, a2, a3), rfl⟩ | _ => none
noncomputable def view26 (x : Expr) : Option {t : Expr × Expr × Expr × Pos × Pos // x = .Subscript t.1 (.Slice (some t.2.1) (some t.2.2.1) none t.2.2.2.1) t.2.2.2.2} := match x with | .Subscript a0 (.Slice (some a1) (some a2) none a3) a4 => some ⟨(a0, a1, a2, a3, a4), rfl⟩ | _ => none
noncomputable def view27 (x : Expr) : Option {t : Expr × Str × Pos × Expr × Scope × Pos // x = .ListComp t.1 [⟨.Name t.2.1 t.2.2.1, t.2.2.2.1, [], 0⟩] t.2.2.2.2.1 t.2.2.2.2.2} := match x with | .ListComp a0 [⟨.Name a1 a2, a3, [], 0⟩] a4 a5 => some ⟨(a0, a1, a2, a3, a4, a5), rfl⟩ | _ => none
noncomputable def view28 (x : Expr) : Option {t : Expr × Str × Pos × Expr × Expr × Scope × Pos // x = .ListComp t.1 [⟨.Name t.2.1 t.2.2.1, t.2.2.2.1, [t.2.2.2.2.1], 0⟩] t.2.2.2.2.2.1 t.2.2.2.2.2.2} := match x with | .ListComp a0 [⟨.Name a1 a2, a3, [a4], 0⟩] a5 a6 => some ⟨(a0, a1, a2, a3, a4, a5, a6), rfl⟩ | _ => none
noncomputable def view29 (x : Expr) : Option {t : Expr × Str × Pos × Str × Pos × Nat × Pos × Expr × Expr × Pos × Scope × Pos // x = .ListComp t.1 [⟨.Tuple [.Name t.2.1 t.2.2.1, .Name t.2.2.2.1 t.2.2.2.2.1] t.2.2.2.2.2.1 t.2.2.2.2.2.2.1, .Call t.2.2.2.2.2.2.2.1 [t.2.2.2.2.2.2.2.2.1] [] t.2.2.2.2.2.2.2.2.2.1, [], 0⟩] t.2.2.2.2.2.2.2.2.2.2.1 t.2.2.2.2.2.2.2.2.2.2.2} := match x with | .ListComp a0 [⟨.Tuple [.Name a1 a2, .Name a3 a4] a5 a6, .Call a7 [a8] [] a9, [], 0⟩] a10 a11 => some ⟨(a0, a1, a2, a3, a4, a5, a6, a7, a8, a9, a10, a11), rfl⟩ | _ => none
mutual
noncomputable def mE (nm : List (Str × NameKind)) (xs : List Str) : E → Expr → Bool
  | .none, x => on (view0 x) fun zz => true
  | .bool b, x => on (view1 x) fun zz => b == zz.1.1
  | .int i, x => on (view2 x) fun zz => i == zz.1.1
  | .str n, x => on (view3 x) fun zz => zz.1.1 == n.s
  | .bytes b, x => on (view4 x) fun zz => b == zz.1.1 && decide (b.length ≤ 1000)
  | .loc i, x => on (view5 x) fun zz => xs[i]? == some zz.1.1 && (isVarK (nm.lookup zz.1.1) && okName zz.1.1)
  | .cst n v, x => gName nm n x && cstT.any fun p => p.1 == n && decide (p.2 = v)
  | .bin op a b, x => on (view6 x) fun zz => op == zz.1.2.1 && (mE nm xs a zz.1.1 && mE nm xs b zz.1.2.2.1)
  | .neg a, x => on (view7 x) fun zz => mE nm xs a zz.1.1
  | .not a, x => on (view8 x) fun zz => mE nm xs a zz.1.1
  | .and es, x => on (view9 x) fun zz => mEs nm xs es zz.1.1
  | .or es, x => on (view10 x) fun zz => mEs nm xs es zz.1.1
  | .cmp op a b, x => on (view11 x) fun zz => op == zz.1.2.1 && (!behindInMarks zz.1.2.1 zz.1.2.2.1 && (mE nm xs a zz.1.1 && mE nm xs b zz.1.2.2.1))
  | .cmp2 o1 o2 a b c, x => on (view12 x) fun zz => o1 == zz.1.2.1 && (o2 == zz.1.2.2.1 && (!behindInMarks zz.1.2.2.1 zz.1.2.2.2.2.1 && (mE nm xs a zz.1.1 && (mE nm xs b zz.1.2.2.2.1 && mE nm xs c zz.1.2.2.2.2.1))))
  | .ite t a b, x => on (view13 x) fun zz => mE nm xs t zz.1.1 && (mE nm xs a zz.1.2.1 && mE nm xs b zz.1.2.2.1)
  | .tup es, x => on (view14 x) fun zz => mEs nm xs es zz.1.1 && decide (zz.1.1.length ≤ 1000)
  | .lst es, x => on (view15 x) fun zz => mEs nm xs es zz.1.1 && decide (zz.1.1.length ≤ 1000)
  | .dct ks es, x => on (view16 x) fun zz => mKeys ks zz.1.1 && (mEs nm xs es zz.1.2.1 && (decide (zz.1.1.length = zz.1.2.1.length) && (decide (1 ≤ zz.1.1.length) && decide (zz.1.1.length ≤ 15))))
  | .call f es, x => on (view17 x) fun zz => fnT.any (fun p => p.1 == f && gName nm p.2 zz.1.1) && (mEs nm xs es zz.1.2.1 && decide (zz.1.2.1.length ≤ 20))
  | .mk c es, x => on (view17 x) fun zz => gName nm (clsName c) zz.1.1 && (mEs nm xs es zz.1.2.1 && decide (zz.1.2.1.length ≤ 20))
  | .len a, x => on (view18 x) fun zz => gName nm "len" zz.1.1 && mE nm xs a zz.1.2.1
  | .mkBytes a, x => on (view18 x) fun zz => gName nm "bytes" zz.1.1 && mE nm xs a zz.1.2.1
  | .mkBarr a, x => on (view18 x) fun zz => gName nm "bytearray" zz.1.1 && mE nm xs a zz.1.2.1
  | .absI a, x => on (view18 x) fun zz => gName nm "abs" zz.1.1 && mE nm xs a zz.1.2.1
  | .toInt a, x => on (view18 x) fun zz => gName nm "int" zz.1.1 && mE nm xs a zz.1.2.1
  | .meth o f es, x => on (view19 x) fun zz => (methN f).any (fun c => c.2 == zz.1.2.1) && (zz.1.2.2.1.endLine == zz.1.2.2.2.2.line && (notSuper zz.1.1 && (mE nm xs o zz.1.1 && (mEs nm xs es zz.1.2.2.2.1 && decide (zz.1.2.2.2.1.length ≤ 20)))))
  | .append o a, x => on (view20 x) fun zz => zz.1.2.1 == ("append" : Str) && (zz.1.2.2.1.endLine == zz.1.2.2.2.2.line && (notSuper zz.1.1 && (mE nm xs o zz.1.1 && mE nm xs a zz.1.2.2.2.1)))
  | .pop0 o, x => on (view21 x) fun zz => zz.1.2.1 == ("pop" : Str) && (zz.1.2.2.2.1 == 0 && (zz.1.2.2.1.endLine == zz.1.2.2.2.2.2.2.line && (notSuper zz.1.1 && mE nm xs o zz.1.1)))
  | .index o a, x => on (view20 x) fun zz => zz.1.2.1 == ("index" : Str) && (zz.1.2.2.1.endLine == zz.1.2.2.2.2.line && (notSuper zz.1.1 && (mE nm xs o zz.1.1 && mE nm xs a zz.1.2.2.2.1)))
  | .update o a, x => on (view20 x) fun zz => zz.1.2.1 == ("update" : Str) && (zz.1.2.2.1.endLine == zz.1.2.2.2.2.line && (notSuper zz.1.1 && (mE nm xs o zz.1.1 && mE nm xs a zz.1.2.2.2.1)))
  | .join o a, x => on (view20 x) fun zz => zz.1.2.1 == ("join" : Str) && (zz.1.2.2.1.endLine == zz.1.2.2.2.2.line && (notSuper zz.1.1 && (mE nm xs o zz.1.1 && mE nm xs a zz.1.2.2.2.1)))
  | .attr o n, x => on (view22 x) fun zz => zz.1.2.1 == n.s && (notSuper zz.1.1 && mE nm xs o zz.1.1)
  | .idx o i, x => on (view23 x) fun zz => mE nm xs o zz.1.1 && mE nm xs i zz.1.2.1
  | .slcF o lo, x => on (view24 x) fun zz => mE nm xs o zz.1.1 && mE nm xs lo zz.1.2.1
  | .slcT o hi, x => on (view25 x) fun zz => mE nm xs o zz.1.1 && mE nm xs hi zz.1.2.1
  | .slc o lo hi, x => on (view26 x) fun zz => mE nm xs o zz.1.1 && (mE nm xs lo zz.1.2.1 && mE nm xs hi zz.1.2.2.1)
  | .comp fr e it, x => on (view27 x) fun zz => scopeFit nm xs zz.1.2.2.2.2.1 [zz.1.2.1] fr && (mE (relabelN nm zz.1.2.2.2.2.1.names) (cXs xs [zz.1.2.1] fr) e zz.1.1 && mE nm xs it zz.1.2.2.2.1)
  | .compIf fr e it c, x => on (view28 x) fun zz => scopeFit nm xs zz.1.2.2.2.2.2.1 [zz.1.2.1] fr && (mE (relabelN nm zz.1.2.2.2.2.2.1.names) (cXs xs [zz.1.2.1] fr) e zz.1.1 && (mE (relabelN nm zz.1.2.2.2.2.2.1.names) (cXs xs [zz.1.2.1] fr) c zz.1.2.2.2.2.1 && mE nm xs it zz.1.2.2.2.1))
  | .compEn fr e it, x => on (view29 x) fun zz => scopeFit nm xs zz.1.2.2.2.2.2.2.2.2.2.2.1 [zz.1.2.1, zz.1.2.2.2.1] fr && (mE (relabelN nm zz.1.2.2.2.2.2.2.2.2.2.2.1.names) (cXs xs [zz.1.2.1, zz.1.2.2.2.1] fr) e zz.1.1 && (gName nm "enumerate" zz.1.2.2.2.2.2.2.2.1 && mE nm xs it zz.1.2.2.2.2.2.2.2.2.1))
noncomputable def mEs (nm : List (Str × NameKind)) (xs : List Str) : Es → List Expr → Bool
  | .nil, l => l.isEmpty
  | .cons e r, l => match l with | x :: ys => mE nm xs e x && mEs nm xs r ys | [] => false
end
theorem inv_cst {nm : List (Str × NameKind)} {xs : List Str} {n v} {x : Expr} (h : mE nm xs (.cst n v) x = true) : gName nm n x = true ∧ (cstT.any fun p => p.1 == n && decide (p.2 = v)) = true := Bool.and_eq_true_iff.mp h
theorem inv_none {nm : List (Str × NameKind)} {xs : List Str} {x : Expr} {P : Expr → Prop} (h : mE nm xs .none x = true) (k : ∀ w1 w2, (true) = true → P (.Constant .none w1 w2)) : P x :=
  on_out h fun zz h => Eq.substr (p := P) zz.2 (k zz.1.1 zz.1.2 h)
theorem inv_bool {nm : List (Str × NameKind)} {xs : List Str} {b} {x : Expr} {P : Expr → Prop} (h : mE nm xs (.bool b) x = true) (k : ∀ c w1 w2, (b == c) = true → P (.Constant (.bool c) w1 w2)) : P x :=
  on_out h fun zz h => Eq.substr (p := P) zz.2 (k zz.1.1 zz.1.2.1 zz.1.2.2 h)
theorem inv_int {nm : List (Str × NameKind)} {xs : List Str} {i} {x : Expr} {P : Expr → Prop} (h : mE nm xs (.int i) x = true) (k : ∀ j w1 w2, (i == j) = true → P (.Constant (.int j) w1 w2)) : P x :=
  on_out h fun zz h => Eq.substr (p := P) zz.2 (k zz.1.1 zz.1.2.1 zz.1.2.2 h)
theorem inv_str {nm : List (Str × NameKind)} {xs : List Str} {n} {x : Expr} {P : Expr → Prop} (h : mE nm xs (.str n) x = true) (k : ∀ t w1 w2, (t == n.s) = true → P (.Constant (.str t) w1 w2)) : P x :=
  on_out h fun zz h => Eq.substr (p := P) zz.2 (k zz.1.1 zz.1.2.1 zz.1.2.2 h)
theorem inv_bytes {nm : List (Str × NameKind)} {xs : List Str} {b} {x : Expr} {P : Expr → Prop} (h : mE nm xs (.bytes b) x = true) (k : ∀ c w1 w2, (b == c && decide (b.length ≤ 1000)) = true → P (.Constant (.bytes c) w1 w2)) : P x :=
  on_out h fun zz h => Eq.substr (p := P) zz.2 (k zz.1.1 zz.1.2.1 zz.1.2.2 h)
theorem inv_loc {nm : List (Str × NameKind)} {xs : List Str} {i} {x : Expr} {P : Expr → Prop} (h : mE nm xs (.loc i) x = true) (k : ∀ y w1, (xs[i]? == some y && (isVarK (nm.lookup y) && okName y)) = true → P (.Name y w1)) : P x :=
  on_out h fun zz h => Eq.substr (p := P) zz.2 (k zz.1.1 zz.1.2 h)
theorem inv_bin {nm : List (Str × NameKind)} {xs : List Str} {op a b} {x : Expr} {P : Expr → Prop} (h : mE nm xs (.bin op a b) x = true) (k : ∀ l o r w1, (op == o && (mE nm xs a l && mE nm xs b r)) = true → P (.BinOp l o r w1)) : P x :=
  on_out h fun zz h => Eq.substr (p := P) zz.2 (k zz.1.1 zz.1.2.1 zz.1.2.2.1 zz.1.2.2.2 h)
theorem inv_neg {nm : List (Str × NameKind)} {xs : List Str} {a} {x : Expr} {P : Expr → Prop} (h : mE nm xs (.neg a) x = true) (k : ∀ y w1, (mE nm xs a y) = true → P (.UnaryOp .USub y w1)) : P x :=
  on_out h fun zz h => Eq.substr (p := P) zz.2 (k zz.1.1 zz.1.2 h)
theorem inv_not {nm : List (Str × NameKind)} {xs : List Str} {a} {x : Expr} {P : Expr → Prop} (h : mE nm xs (.not a) x = true) (k : ∀ y w1, (mE nm xs a y) = true → P (.UnaryOp .Not y w1)) : P x :=
  on_out h fun zz h => Eq.substr (p := P) zz.2 (k zz.1.1 zz.1.2 h)
theorem inv_and {nm : List (Str × NameKind)} {xs : List Str} {es} {x : Expr} {P : Expr → Prop} (h : mE nm xs (.and es) x = true) (k : ∀ ys w1, (mEs nm xs es ys) = true → P (.BoolOp .And ys w1)) : P x :=
  on_out h fun zz h => Eq.substr (p := P) zz.2 (k zz.1.1 zz.1.2 h)
theorem inv_or {nm : List (Str × NameKind)} {xs : List Str} {es} {x : Expr} {P : Expr → Prop} (h : mE nm xs (.or es) x = true) (k : ∀ ys w1, (mEs nm xs es ys) = true → P (.BoolOp .Or ys w1)) : P x :=
  on_out h fun zz h => Eq.substr (p := P) zz.2 (k zz.1.1 zz.1.2 h)
theorem inv_cmp {nm : List (Str × NameKind)} {xs : List Str} {op a b} {x : Expr} {P : Expr → Prop} (h : mE nm xs (.cmp op a b) x = true) (k : ∀ l o r w1, (op == o && (!behindInMarks o r && (mE nm xs a l && mE nm xs b r))) = true → P (.Compare l [o] [r] w1)) : P x :=
  on_out h fun zz h => Eq.substr (p := P) zz.2 (k zz.1.1 zz.1.2.1 zz.1.2.2.1 zz.1.2.2.2 h)
theorem inv_cmp2 {nm : List (Str × NameKind)} {xs : List Str} {o1 o2 a b c} {x : Expr} {P : Expr → Prop} (h : mE nm xs (.cmp2 o1 o2 a b c) x = true) (k : ∀ l p1 p2 r1 r2 w1, (o1 == p1 && (o2 == p2 && (!behindInMarks p2 r2 && (mE nm xs a l && (mE nm xs b r1 && mE nm xs c r2))))) = true → P (.Compare l [p1, p2] [r1, r2] w1)) : P x :=
  on_out h fun zz h => Eq.substr (p := P) zz.2 (k zz.1.1 zz.1.2.1 zz.1.2.2.1 zz.1.2.2.2.1 zz.1.2.2.2.2.1 zz.1.2.2.2.2.2 h)
theorem inv_ite {nm : List (Str × NameKind)} {xs : List Str} {t a b} {x : Expr} {P : Expr → Prop} (h : mE nm xs (.ite t a b) x = true) (k : ∀ t' a' b' w1, (mE nm xs t t' && (mE nm xs a a' && mE nm xs b b')) = true → P (.IfExp t' a' b' w1)) : P x :=
  on_out h fun zz h => Eq.substr (p := P) zz.2 (k zz.1.1 zz.1.2.1 zz.1.2.2.1 zz.1.2.2.2 h)
theorem inv_tup {nm : List (Str × NameKind)} {xs : List Str} {es} {x : Expr} {P : Expr → Prop} (h : mE nm xs (.tup es) x = true) (k : ∀ ys w1 w2, (mEs nm xs es ys && decide (ys.length ≤ 1000)) = true → P (.Tuple ys w1 w2)) : P x :=
  on_out h fun zz h => Eq.substr (p := P) zz.2 (k zz.1.1 zz.1.2.1 zz.1.2.2 h)
theorem inv_lst {nm : List (Str × NameKind)} {xs : List Str} {es} {x : Expr} {P : Expr → Prop} (h : mE nm xs (.lst es) x = true) (k : ∀ ys w1, (mEs nm xs es ys && decide (ys.length ≤ 1000)) = true → P (.List ys w1)) : P x :=
  on_out h fun zz h => Eq.substr (p := P) zz.2 (k zz.1.1 zz.1.2 h)
theorem inv_dct {nm : List (Str × NameKind)} {xs : List Str} {ks es} {x : Expr} {P : Expr → Prop} (h : mE nm xs (.dct ks es) x = true) (k : ∀ keys ys w1, (mKeys ks keys && (mEs nm xs es ys && (decide (keys.length = ys.length) && (decide (1 ≤ keys.length) && decide (keys.length ≤ 15))))) = true → P (.Dict keys ys w1)) : P x :=
  on_out h fun zz h => Eq.substr (p := P) zz.2 (k zz.1.1 zz.1.2.1 zz.1.2.2 h)
theorem inv_call {nm : List (Str × NameKind)} {xs : List Str} {f es} {x : Expr} {P : Expr → Prop} (h : mE nm xs (.call f es) x = true) (k : ∀ g ys w1, (fnT.any (fun p => p.1 == f && gName nm p.2 g) && (mEs nm xs es ys && decide (ys.length ≤ 20))) = true → P (.Call g ys [] w1)) : P x :=
  on_out h fun zz h => Eq.substr (p := P) zz.2 (k zz.1.1 zz.1.2.1 zz.1.2.2 h)
theorem inv_mk {nm : List (Str × NameKind)} {xs : List Str} {c es} {x : Expr} {P : Expr → Prop} (h : mE nm xs (.mk c es) x = true) (k : ∀ g ys w1, (gName nm (clsName c) g && (mEs nm xs es ys && decide (ys.length ≤ 20))) = true → P (.Call g ys [] w1)) : P x :=
  on_out h fun zz h => Eq.substr (p := P) zz.2 (k zz.1.1 zz.1.2.1 zz.1.2.2 h)
theorem inv_len {nm : List (Str × NameKind)} {xs : List Str} {a} {x : Expr} {P : Expr → Prop} (h : mE nm xs (.len a) x = true) (k : ∀ g y w1, (gName nm "len" g && mE nm xs a y) = true → P (.Call g [y] [] w1)) : P x :=
  on_out h fun zz h => Eq.substr (p := P) zz.2 (k zz.1.1 zz.1.2.1 zz.1.2.2 h)
theorem inv_mkBytes {nm : List (Str × NameKind)} {xs : List Str} {a} {x : Expr} {P : Expr → Prop} (h : mE nm xs (.mkBytes a) x = true) (k : ∀ g y w1, (gName nm "bytes" g && mE nm xs a y) = true → P (.Call g [y] [] w1)) : P x :=
  on_out h fun zz h => Eq.substr (p := P) zz.2 (k zz.1.1 zz.1.2.1 zz.1.2.2 h)
theorem inv_mkBarr {nm : List (Str × NameKind)} {xs : List Str} {a} {x : Expr} {P : Expr → Prop} (h : mE nm xs (.mkBarr a) x = true) (k : ∀ g y w1, (gName nm "bytearray" g && mE nm xs a y) = true → P (.Call g [y] [] w1)) : P x :=
  on_out h fun zz h => Eq.substr (p := P) zz.2 (k zz.1.1 zz.1.2.1 zz.1.2.2 h)
theorem inv_absI {nm : List (Str × NameKind)} {xs : List Str} {a} {x : Expr} {P : Expr → Prop} (h : mE nm xs (.absI a) x = true) (k : ∀ g y w1, (gName nm "abs" g && mE nm xs a y) = true → P (.Call g [y] [] w1)) : P x :=
  on_out h fun zz h => Eq.substr (p := P) zz.2 (k zz.1.1 zz.1.2.1 zz.1.2.2 h)
theorem inv_toInt {nm : List (Str × NameKind)} {xs : List Str} {a} {x : Expr} {P : Expr → Prop} (h : mE nm xs (.toInt a) x = true) (k : ∀ g y w1, (gName nm "int" g && mE nm xs a y) = true → P (.Call g [y] [] w1)) : P x :=
  on_out h fun zz h => Eq.substr (p := P) zz.2 (k zz.1.1 zz.1.2.1 zz.1.2.2 h)
theorem inv_meth {nm : List (Str × NameKind)} {xs : List Str} {o f es} {x : Expr} {P : Expr → Prop} (h : mE nm xs (.meth o f es) x = true) (k : ∀ o' n p ys q, ((methN f).any (fun c => c.2 == n) && (p.endLine == q.line && (notSuper o' && (mE nm xs o o' && (mEs nm xs es ys && decide (ys.length ≤ 20)))))) = true → P (.Call (.Attribute o' n p) ys [] q)) : P x :=
  on_out h fun zz h => Eq.substr (p := P) zz.2 (k zz.1.1 zz.1.2.1 zz.1.2.2.1 zz.1.2.2.2.1 zz.1.2.2.2.2 h)
theorem inv_append {nm : List (Str × NameKind)} {xs : List Str} {o a} {x : Expr} {P : Expr → Prop} (h : mE nm xs (.append o a) x = true) (k : ∀ o' n p y q, (n == ("append" : Str) && (p.endLine == q.line && (notSuper o' && (mE nm xs o o' && mE nm xs a y)))) = true → P (.Call (.Attribute o' n p) [y] [] q)) : P x :=
  on_out h fun zz h => Eq.substr (p := P) zz.2 (k zz.1.1 zz.1.2.1 zz.1.2.2.1 zz.1.2.2.2.1 zz.1.2.2.2.2 h)
theorem inv_pop0 {nm : List (Str × NameKind)} {xs : List Str} {o} {x : Expr} {P : Expr → Prop} (h : mE nm xs (.pop0 o) x = true) (k : ∀ o' n p i w1 w2 q, (n == ("pop" : Str) && (i == 0 && (p.endLine == q.line && (notSuper o' && mE nm xs o o')))) = true → P (.Call (.Attribute o' n p) [.Constant (.int i) w1 w2] [] q)) : P x :=
  on_out h fun zz h => Eq.substr (p := P) zz.2 (k zz.1.1 zz.1.2.1 zz.1.2.2.1 zz.1.2.2.2.1 zz.1.2.2.2.2.1 zz.1.2.2.2.2.2.1 zz.1.2.2.2.2.2.2 h)
theorem inv_index {nm : List (Str × NameKind)} {xs : List Str} {o a} {x : Expr} {P : Expr → Prop} (h : mE nm xs (.index o a) x = true) (k : ∀ o' n p y q, (n == ("index" : Str) && (p.endLine == q.line && (notSuper o' && (mE nm xs o o' && mE nm xs a y)))) = true → P (.Call (.Attribute o' n p) [y] [] q)) : P x :=
  on_out h fun zz h => Eq.substr (p := P) zz.2 (k zz.1.1 zz.1.2.1 zz.1.2.2.1 zz.1.2.2.2.1 zz.1.2.2.2.2 h)
theorem inv_update {nm : List (Str × NameKind)} {xs : List Str} {o a} {x : Expr} {P : Expr → Prop} (h : mE nm xs (.update o a) x = true) (k : ∀ o' n p y q, (n == ("update" : Str) && (p.endLine == q.line && (notSuper o' && (mE nm xs o o' && mE nm xs a y)))) = true → P (.Call (.Attribute o' n p) [y] [] q)) : P x :=
  on_out h fun zz h => Eq.substr (p := P) zz.2 (k zz.1.1 zz.1.2.1 zz.1.2.2.1 zz.1.2.2.2.1 zz.1.2.2.2.2 h)
theorem inv_join {nm : List (Str × NameKind)} {xs : List Str} {o a} {x : Expr} {P : Expr → Prop} (h : mE nm xs (.join o a) x = true) (k : ∀ o' n p y q, (n == ("join" : Str) && (p.endLine == q.line && (notSuper o' && (mE nm xs o o' && mE nm xs a y)))) = true → P (.Call (.Attribute o' n p) [y] [] q)) : P x :=
  on_out h fun zz h => Eq.substr (p := P) zz.2 (k zz.1.1 zz.1.2.1 zz.1.2.2.1 zz.1.2.2.2.1 zz.1.2.2.2.2 h)
theorem inv_attr {nm : List (Str × NameKind)} {xs : List Str} {o n} {x : Expr} {P : Expr → Prop} (h : mE nm xs (.attr o n) x = true) (k : ∀ o' y w1, (y == n.s && (notSuper o' && mE nm xs o o')) = true → P (.Attribute o' y w1)) : P x :=
  on_out h fun zz h => Eq.substr (p := P) zz.2 (k zz.1.1 zz.1.2.1 zz.1.2.2 h)
theorem inv_idx {nm : List (Str × NameKind)} {xs : List Str} {o i} {x : Expr} {P : Expr → Prop} (h : mE nm xs (.idx o i) x = true) (k : ∀ o' i' w1, (mE nm xs o o' && mE nm xs i i') = true → P (.Subscript o' i' w1)) : P x :=
  on_out h fun zz h => Eq.substr (p := P) zz.2 (k zz.1.1 zz.1.2.1 zz.1.2.2 h)
theorem inv_slcF {nm : List (Str × NameKind)} {xs : List Str} {o lo} {x : Expr} {P : Expr → Prop} (h : mE nm xs (.slcF o lo) x = true) (k : ∀ o' lo' w1 w2, (mE nm xs o o' && mE nm xs lo lo') = true → P (.Subscript o' (.Slice (some lo') none none w1) w2)) : P x :=
  on_out h fun zz h => Eq.substr (p := P) zz.2 (k zz.1.1 zz.1.2.1 zz.1.2.2.1 zz.1.2.2.2 h)
theorem inv_slcT {nm : List (Str × NameKind)} {xs : List Str} {o hi} {x : Expr} {P : Expr → Prop} (h : mE nm xs (.slcT o hi) x = true) (k : ∀ o' hi' w1 w2, (mE nm xs o o' && mE nm xs hi hi') = true → P (.Subscript o' (.Slice none (some hi') none w1) w2)) : P x :=
  on_out h fun zz h => Eq.substr (p := P) zz.2 (k zz.1.1 zz.1.2.1 zz.1.2.2.1 zz.1.2.2.2 h)
theorem inv_slc {nm : List (Str × NameKind)} {xs : List Str} {o lo hi} {x : Expr} {P : Expr → Prop} (h : mE nm xs (.slc o lo hi) x = true) (k : ∀ o' lo' hi' w1 w2, (mE nm xs o o' && (mE nm xs lo lo' && mE nm xs hi hi')) = true → P (.Subscript o' (.Slice (some lo') (some hi') none w1) w2)) : P x :=
  on_out h fun zz h => Eq.substr (p := P) zz.2 (k zz.1.1 zz.1.2.1 zz.1.2.2.1 zz.1.2.2.2.1 zz.1.2.2.2.2 h)
theorem inv_comp {nm : List (Str × NameKind)} {xs : List Str} {fr e it} {x : Expr} {P : Expr → Prop} (h : mE nm xs (.comp fr e it) x = true) (k : ∀ e' t w1 it' sc w2, (scopeFit nm xs sc [t] fr && (mE (relabelN nm sc.names) (cXs xs [t] fr) e e' && mE nm xs it it')) = true → P (.ListComp e' [⟨.Name t w1, it', [], 0⟩] sc w2)) : P x :=
  on_out h fun zz h => Eq.substr (p := P) zz.2 (k zz.1.1 zz.1.2.1 zz.1.2.2.1 zz.1.2.2.2.1 zz.1.2.2.2.2.1 zz.1.2.2.2.2.2 h)
theorem inv_compIf {nm : List (Str × NameKind)} {xs : List Str} {fr e it c} {x : Expr} {P : Expr → Prop} (h : mE nm xs (.compIf fr e it c) x = true) (k : ∀ e' t w1 it' c' sc w2, (scopeFit nm xs sc [t] fr && (mE (relabelN nm sc.names) (cXs xs [t] fr) e e' && (mE (relabelN nm sc.names) (cXs xs [t] fr) c c' && mE nm xs it it'))) = true → P (.ListComp e' [⟨.Name t w1, it', [c'], 0⟩] sc w2)) : P x :=
  on_out h fun zz h => Eq.substr (p := P) zz.2 (k zz.1.1 zz.1.2.1 zz.1.2.2.1 zz.1.2.2.2.1 zz.1.2.2.2.2.1 zz.1.2.2.2.2.2.1 zz.1.2.2.2.2.2.2 h)
theorem inv_compEn {nm : List (Str × NameKind)} {xs : List Str} {fr e it} {x : Expr} {P : Expr → Prop} (h : mE nm xs (.compEn fr e it) x = true) (k : ∀ e' t w1 u w2 w3 w4 g it' w5 sc w6, (scopeFit nm xs sc [t, u] fr && (mE (relabelN nm sc.names) (cXs xs [t, u] fr) e e' && (gName nm "enumerate" g && mE nm xs it it'))) = true → P (.ListComp e' [⟨.Tuple [.Name t w1, .Name u w2] w3 w4, .Call g [it'] [] w5, [], 0⟩] sc w6)) : P x :=
  on_out h fun zz h => Eq.substr (p := P) zz.2 (k zz.1.1 zz.1.2.1 zz.1.2.2.1 zz.1.2.2.2.1 zz.1.2.2.2.2.1 zz.1.2.2.2.2.2.1 zz.1.2.2.2.2.2.2.1 zz.1.2.2.2.2.2.2.2.1 zz.1.2.2.2.2.2.2.2.2.1 zz.1.2.2.2.2.2.2.2.2.2.1 zz.1.2.2.2.2.2.2.2.2.2.2.1 zz.1.2.2.2.2.2.2.2.2.2.2.2 h)
/- ==== a function's own names ==== -/
structure LR (w : World) (B : Heap) (ρ : R) (env : Env) (nm : List (Str × NameKind)) (xs : List Str) (l : L) (s : Shared) : Prop where
  kind : env.scope.kind = .function
  names : env.scope.names = nm
  globals : env.globals = mainGlobals
  builtins : env.builtins = builtinsNs
  len : l.length = xs.length
  nodup : xs.Nodup
  loc : ∃ m, s.heap.Ns env.locals m ∧ ∀ (i : Nat) x, xs[i]? = some x → nm.lookup x = some .local → ∀ v, l[i]? = some (some v) → ∃ val, m x = some val ∧ RV ρ v val
  cel : ∀ (i : Nat) x, xs[i]? = some x → (nm.lookup x = some .cell ∨ nm.lookup x = some .free) → ∃ c cv, env.cells.lookup x = some c ∧ s.heap.IsCell c cv ∧ ∀ v, l[i]? = some (some v) → ∃ val, cv = some val ∧ RV ρ v val
  alive : ∀ x c, env.cells.lookup x = some c → ∃ o, s.heap.get? c = some o
  own : ∀ a, (a = env.locals ∨ ∃ x, env.cells.lookup x = some a) → B.get? a = none ∧ ∀ p ∈ ρ, a ≠ p.1 ∧ a ≠ p.2
  celNe : ∀ x c, env.cells.lookup x = some c → c ≠ env.locals
  celInj : ∀ x y c, env.cells.lookup x = some c → env.cells.lookup y = some c → x = y
section
variable {w : World} {B : Heap} {A : Around} {ρ ρ₁ : R} {h h₁ : H} {s s₁ : Shared} {Q Q₁ : K1} {env : Env} {nm : List (Str × NameKind)} {xs : List Str} {l : L}
theorem LR.step (x : LR w B ρ env nm xs l s) (st : Step ρ ρ₁ s s₁) : LR w B ρ₁ env nm xs l s₁ := by
  have keep : ∀ a o, (a = env.locals ∨ ∃ y, env.cells.lookup y = some a) → s.heap.get? a = some o → s₁.heap.get? a = some o := fun a o ha e => st.pres a o e (x.own a ha).2
  have live : ∀ a, (a = env.locals ∨ ∃ y, env.cells.lookup y = some a) → ∃ o, s.heap.get? a = some o := fun a ha => by
    rcases ha with rfl | ⟨y, hy⟩
    · obtain ⟨m, ⟨o, es, ep, ho, _⟩, _⟩ := x.loc; exact ⟨o, ho⟩
    · exact x.alive y a hy
  refine ⟨x.kind, x.names, x.globals, x.builtins, x.len, x.nodup, ?_, ?_, ?_, ?_, x.celNe, x.celInj⟩
  · refine hide fun gp gg => ?_; obtain ⟨m, ⟨o, es, ep, ho, hd⟩, hm⟩ := x.loc; refine gg ?_; clear gg gp
    refine ⟨m, ⟨o, es, ep, keep _ _ (.inl rfl) ho, hd⟩, fun i y h1 h2 v h3 => ?_⟩
    obtain ⟨val, e, r⟩ := hm i y h1 h2 v h3
    exact ⟨val, e, r.mono st.sub⟩
  · intro i y h1 h2
    refine hide fun gp gg => ?_; obtain ⟨c, cv, h3, ⟨o, ho, hd⟩, h4⟩ := x.cel i y h1 h2; refine gg ?_; clear gg gp
    refine ⟨c, cv, h3, ⟨o, keep _ _ (.inr ⟨y, h3⟩) ho, hd⟩, fun v hv => ?_⟩
    obtain ⟨val, e, r⟩ := h4 v hv
    exact ⟨val, e, r.mono st.sub⟩
  · intro y c hc
    obtain ⟨o, ho⟩ := x.alive y c hc
    exact ⟨o, keep _ _ (.inr ⟨y, hc⟩) ho⟩
  · intro a ha
    refine ⟨(x.own a ha).1, fun p hp => ?_⟩
    obtain ⟨g, e, hg⟩ := st.ext
    rw [e] at hp
    rcases List.mem_append.mp hp with hp | hp
    · exact (x.own a ha).2 p hp
    · obtain ⟨o, ho⟩ := live a ha
      constructor
      · rintro rfl; rw [(hg p hp).1] at ho; cases ho
      · rintro rfl; rw [(hg p hp).2] at ho; cases ho
theorem okName_of {x : Str} (h : okName x = true) : (x == ("__debug__" : Str)) = false := by
  unfold okName at h
  refine and2 h fun h1 _ => ?_
  simpa using h1
theorem okName_of2 {x : Str} (h : okName x = true) : (x == ("__classdict__" : Str)) = false := by
  unfold okName at h
  refine and2 h fun _ h1 => ?_
  simpa using h1
/-- a local name -/
theorem loc_ok {i : Nat} {y : Str} {p : Pos} (hr : HR w B ρ h s) (lr : LR w B ρ env nm xs l s) (h1 : xs[i]? = some y) (h2 : isVarK (nm.lookup y) = true) (h3 : okName y = true) {v : V} (h4 : l[i]? = some (some v)) (q : Q v h) :
    Wp w B A (eval (.Name y p) env) ρ s Q := by
  refine wpAny_Name ?_ (okName_of h3)
  have hk : env.kindOf y = nm.lookup y := by unfold Env.kindOf; rw [lr.names]
  unfold isVarK at h2
  split at h2
  · rename_i e
    obtain ⟨m, hn, hm⟩ := lr.loc
    obtain ⟨val, e1, r⟩ := hm i y h1 e v h4
    exact wpAny_loadName_local lr.kind (hk.trans e) hn e1 (PE.val' hr q r)
  · rename_i e
    refine hide fun gp gg => ?_; obtain ⟨c, cv, hc, hcell, hv⟩ := lr.cel i y h1 (.inl e); refine gg ?_; clear gg gp
    obtain ⟨val, rfl, r⟩ := hv v h4
    exact wpAny_loadName_cell lr.kind (hk.trans e) hc hcell (PE.val' hr q r)
  · rename_i e
    refine hide fun gp gg => ?_; obtain ⟨c, cv, hc, hcell, hv⟩ := lr.cel i y h1 (.inr e); refine gg ?_; clear gg gp
    obtain ⟨val, rfl, r⟩ := hv v h4
    exact wpAny_loadName_free lr.kind (hk.trans e) hc hcell (PE.val' hr q r) (okName_of2 h3)
  · cases h2
/-- a name of the text's top -/
theorem gName_of {n : Str} {x : Expr} (h : gName nm n x = true) : ∃ p, x = .Name n p ∧ nm.lookup n = some .globalImplicit ∧ okName n = true := by
  refine hide fun gp gg => ?_; obtain ⟨⟨⟨y, p⟩, e⟩, _, h⟩ := on_inv h; refine gg ?_; clear gg gp
  refine and3 h fun h1 h3 h4 => ?_
  have e1 := beq_iff_eq.mp h1
  subst e1
  exact ⟨p, e, beq_iff_eq.mp h3, h4⟩
theorem glob_ok {n : Str} {x : Expr} {v : Value} {Q : Value → Shared → Prop} {E : Value → Shared → Prop} (bs : Base w B) (hr : HR w B ρ h s) (lr : LR w B ρ env nm xs l s) (hx : gName nm n x = true) (e : nsIn (K w.params) mainGlobals n = some (some v)) (q : Q v s) :
    wpAny (model pw w) A (eval x env) Q E s := by
  refine hide fun gp gg => ?_; obtain ⟨p, rfl, h1, h2⟩ := gName_of hx; refine gg ?_; clear gg gp
  obtain ⟨mg, hg⟩ := bs.glob
  have hg' : s.heap.Ns mainGlobals mg := let ⟨o, es, ep, ho, r⟩ := hg; ⟨o, es, ep, hr.base _ _ ho, r⟩
  exact Calls.Name_function_global lr.kind (by unfold Env.kindOf; rw [lr.names]; exact h1) (Calls.loadGlobal_global (mg := mg) (by rw [lr.globals]; exact hg') (mg_of (hr.K bs) hg' e) q) (okName_of h2)
theorem blt_ok {n : Str} {x : Expr} {v : Value} {Q : Value → Shared → Prop} {E : Value → Shared → Prop} (bs : Base w B) (hr : HR w B ρ h s) (lr : LR w B ρ env nm xs l s) (hx : gName nm n x = true) (e : nsIn (K w.params) mainGlobals n = some none)
    (hn : n ≠ "__name__") (hb : bootBuiltins n = some v) (q : Q v s) : wpAny (model pw w) A (eval x env) Q E s := by
  refine hide fun gp gg => ?_; obtain ⟨p, rfl, h1, h2⟩ := gName_of hx; refine gg ?_; clear gg gp
  obtain ⟨mg, hg⟩ := bs.glob
  obtain ⟨mb, hmb, hbt⟩ := bs.blt
  have hg' : s.heap.Ns mainGlobals mg := let ⟨o, es, ep, ho, r⟩ := hg; ⟨o, es, ep, hr.base _ _ ho, r⟩
  have hb' : s.heap.Ns builtinsNs mb := let ⟨o, es, ep, ho, r⟩ := hmb; ⟨o, es, ep, hr.base _ _ ho, r⟩
  exact Calls.Name_function_global lr.kind (by unfold Env.kindOf; rw [lr.names]; exact h1) (Calls.loadGlobal_builtin (mg := mg) (mb := mb) (by rw [lr.globals]; exact hg') (mg_none_of (hr.K bs) hg' e) (by rw [lr.builtins]; exact hb') ((hbt n hn).trans hb) q) (okName_of h2)
end
end Mine
end
section
set_option maxRecDepth 100000
namespace Mine
open PySem PySem.W PyProof.Rows PySem.SeqAt
section
variable {w : World} {B : Heap} {A : Around} {ρ ρ₁ : R} {h h₁ : H} {s s₁ : Shared} {Q Q₁ : K1} {env : Env} {nm : List (Str × NameKind)} {xs : List Str} {l : L} {n : Nat}
theorem Room.mono {A : Around} {n m : Nat} (r : Room A n) (hm : m ≤ n) : Room A m := ⟨r.handled, by have := r.depth; (first | lia | omega), by have := r.units; (first | lia | omega)⟩
theorem Room.zero {A : Around} {n : Nat} (r : Room A n) : Room A 0 := r.mono (Nat.zero_le _)
noncomputable abbrev WX (w : World) (B : Heap) (A : Around) (t : Sem Value) (ρ : R) (s : Shared) (Q : K1) : Prop := wX (model pw w) A t (PE w B ρ s Q) s
/-- what a function of the text does -/
noncomputable def G (w : World) (B : Heap) (n : Nat) (f : Nat) (vs : List V) (h : H) (Q : K1) : Prop :=
  ∀ A ρ s vals, Roo2 A n → HR w B ρ h s → RVs ρ vs vals → WX w B A (call (.ref f) vals) ρ s Q
theorem WX.shift {t : Sem Value} (st : Step ρ ρ₁ s s₁) (x : HR w B ρ₁ h₁ s₁) (p : WX w B A t ρ₁ s₁ Q) : wX (model pw w) A t (PE w B ρ s Q) s₁ := wX.mono p fun _ _ z => z.shift st x
theorem WX.seq {β : Type} {t : Sem Value} {f : Value → Sem β} {Q' : β → Shared → Prop} (p : WX w B A t ρ s Q₁)
    (k : ∀ v val h₁ ρ₁ s₁, Q₁ v h₁ → RV ρ₁ v val → HR w B ρ₁ h₁ s₁ → Step ρ ρ₁ s s₁ → wX (model pw w) A (f val) Q' s₁) : wX (model pw w) A (t >>= f) Q' s :=
  .bind (wX.mono p fun val s₁ ⟨v, h₁, ρ₁, q, r, hr, st⟩ => k v val h₁ ρ₁ s₁ q r hr st)
theorem WX.hseq {β : Type} {vs : List Value} {t : Sem Value} {f : Value → Sem β} {Q' : β → Shared → Prop} (p : WX w B A t ρ s Q₁)
    (k : ∀ v val h₁ ρ₁ s₁, Q₁ v h₁ → RV ρ₁ v val → HR w B ρ₁ h₁ s₁ → Step ρ ρ₁ s s₁ → wX (model pw w) A (f val) Q' s₁) : wX (model pw w) A (holding vs t >>= f) Q' s :=
  .bind (.holding (wX.mono p fun val s₁ ⟨v, h₁, ρ₁, q, r, hr, st⟩ => k v val h₁ ρ₁ s₁ q r hr st))
theorem wX.operate {M : Model} {vs : List Value} {m : Sem Value} {Q : Value → Shared → Prop} (h : wX M A m Q s) : wX M A (PySem.operate vs m) Q s :=
  .bind (.holding (h.mono fun _ _ q => .bind (.lift (wpAny_release (wX.pure q)))))
theorem wX.keep {α : Type} {M : Model} {vs : List Value} {m : Sem α} {Q : α → Shared → Prop} (h : wX M A m Q s) : wX M A (m.keep vs) Q s := fun Γ p hi h1 h2 => by rw [Sem.wp_keep]; exact h Γ p hi h1 h2
noncomputable def EvalOk (w : World) (B : Heap) (n : Nat) (env : Env) (nm : List (Str × NameKind)) (xs : List Str) (e : E) : Prop :=
  ∀ x : Expr, mE nm xs e x = true → ∀ (A : Around) (ρ : R) (l : L) (h : H) (s : Shared) (Q : K1), Room A n → HR w B ρ h s → LR w B ρ env nm xs l s → wpE (G w B n) e l h Q → WX w B A (eval x env) ρ s Q
noncomputable def PB (w : World) (B : Heap) (ρ : R) (s : Shared) (Q : K1) : Bool → Shared → Prop := fun b s' => ∃ h' ρ', Q (.bool b) h' ∧ HR w B ρ' h' s' ∧ Step ρ ρ' s s'
noncomputable def IsB (Q : K1) : Prop := ∀ v h', Q v h' → ∃ b, v = .bool b
noncomputable def TestOk (w : World) (B : Heap) (n : Nat) (env : Env) (nm : List (Str × NameKind)) (xs : List Str) (e : E) : Prop :=
  ∀ x : Expr, mE nm xs e x = true → ∀ (A : Around) (ρ : R) (l : L) (h : H) (s : Shared) (Q : K1), Room A n → HR w B ρ h s → LR w B ρ env nm xs l s → IsB Q → wpE (G w B n) e l h Q →
    wX (model pw w) A (isTrue x env (eval x env)) (PB w B ρ s Q) s
noncomputable def PEs (w : World) (B : Heap) (ρ : R) (s : Shared) (k : Nat) (Q : List V → H → Prop) : List Value → Shared → Prop :=
  fun vals s' => vals.length = k ∧ ∃ vs h' ρ', Q vs h' ∧ RVs ρ' vs vals ∧ HR w B ρ' h' s' ∧ Step ρ ρ' s s'
noncomputable def EvalsOk (w : World) (B : Heap) (n : Nat) (env : Env) (nm : List (Str × NameKind)) (xs : List Str) (es : Es) : Prop :=
  ∀ ys : List Expr, mEs nm xs es ys = true → ∀ (pos : Pos) (A : Around) (ρ : R) (l : L) (h : H) (s : Shared) (Q : List V → H → Prop), Room A n → HR w B ρ h s → LR w B ρ env nm xs l s → wpEs (G w B n) es l h Q →
    wX (model pw w) A (spliced (backTo pos (starEach ys env))) (PEs w B ρ s ys.length Q) s
theorem mE_star {e : E} {y : Expr} {r : List Expr} (h : mE nm xs e y = true) : starEach (y :: r) env = (false, eval y env) :: starEach r env := by
  cases y with
  | Starred v p =>
    have e1 : mE nm xs e (.Starred v p) = false := by cases e <;> rfl
    exact absurd (e1.symm.trans h) (by decide)
  | _ => rfl
theorem bin_ok {op : Operator} {a b : E} (ha : EvalOk w B n env nm xs a) (hb : EvalOk w B n env nm xs b) : EvalOk w B n env nm xs (.bin op a b) := by
  intro x hx A ρ l h s Q R hr lr q
  apply inv_bin hx; intro _ _ _ _ hx
  · rename_i l' o r' p
    refine and3 hx fun h1 h3 h4 => ?_
    have e := beq_iff_eq.mp h1
    subst e
    rw [arm_eval_BinOp]
    refine WX.seq (ha _ h3 A ρ l h s _ R hr lr q) fun v val h₁ ρ₁ s₁ q1 r1 hr1 st1 => ?_
    refine WX.hseq (hb _ h4 A ρ₁ l h₁ s₁ _ R hr1 (lr.step st1) q1) fun v2 val2 h₂ ρ₂ s₂ q2 r2 hr2 st2 => ?_
    exact .stand (.operate (.lift (Wp.shift (st1.then hr1 st2) hr2 (binop_ok R.zero hr2 (r1.mono st2.sub) r2 q2))))
theorem evals_nil : EvalsOk w B n env nm xs .nil := by
  intro ys hy pos A ρ l h s Q R hr lr q
  cases ys with
  | nil => exact .pure ⟨rfl, [], h, ρ, q, trivial, hr, .refl⟩
  | cons _ _ => exact nomatch (show false = true from hy)
theorem evals_cons {e : E} {es : Es} (he : EvalOk w B n env nm xs e) (hes : EvalsOk w B n env nm xs es) : EvalsOk w B n env nm xs (.cons e es) := by
  intro ys hy pos A ρ l h s Q R hr lr q
  cases ys with
  | nil => exact nomatch (show false = true from hy)
  | cons y ys =>
    refine and2 hy fun h1 h2 => ?_
    rw [mE_star h1]
    show wX _ _ (do let v ← eval y env; let here ← pure [v]; return here ++ (← holding here (spliced (backTo pos (starEach ys env))))) _ s
    refine WX.seq (he _ h1 A ρ l h s _ R hr lr q) fun v val h₁ ρ₁ s₁ q1 r1 hr1 st1 => ?_
    refine .bind (.pure (.bind (.holding ((hes ys h2 pos A ρ₁ l h₁ s₁ _ R hr1 (lr.step st1) q1).mono fun vals s₂ zz0 => ?_))))
    refine hide fun gp gg => ?_; obtain ⟨hk, vs, h₂, ρ₂, q2, r2, hr2, st2⟩ := zz0; refine gg ?_; clear gg gp
    exact .pure ⟨by simp [hk], v :: vs, h₂, ρ₂, q2, ⟨r1.mono st2.sub, r2⟩, hr2, st1.then hr1 st2⟩
theorem mEs_plain (pos : Pos) : ∀ (es : Es) (ys : List Expr), mEs nm xs es ys = true → (backTo pos (starEach ys env)).any (·.1) = false ∧ (backTo pos (starEach ys env)).all (!·.1) = true ∧ (backTo pos (starEach ys env)).length = ys.length
  | .nil, [], _ => ⟨rfl, rfl, rfl⟩
  | .nil, _ :: _, h => nomatch (show false = true from h)
  | .cons e es, [], h => nomatch (show false = true from h)
  | .cons e es, y :: ys, h => by
    refine and2 h fun h1 h2 => ?_
    obtain ⟨i1, i2, i3⟩ := mEs_plain pos es ys h2
    rw [mE_star h1]
    refine ⟨?_, ?_, ?_⟩
    · show (false || (backTo pos (starEach ys env)).any (·.1)) = false
      rw [i1]; rfl
    · show (true && (backTo pos (starEach ys env)).all (!·.1)) = true
      rw [i2]; rfl
    · show (backTo pos (starEach ys env)).length + 1 = ys.length + 1
      rw [i3]
/- ==== calls ==== -/
theorem evalArgs_X {f : Value} {trees : List (Bool × Sem Value)} {Q : Args → Shared → Prop} (hp : trees.any (·.1) = false) (h : wX (model pw w) A (spliced trees) (fun vals s' => Q ⟨vals, []⟩ s') s) :
    wX (model pw w) A (evalArgs f true trees []) Q s := by
  unfold evalArgs
  dsimp only
  split
  · simp at hp
  · refine .bind (h.mono fun vals s' q => .bind (.pure (.holding ?_)))
    refine .yes rfl ?_
    refine .bind (.pure ?_)
    exact .bind (.pure (.pure q))
theorem callWith_X {f : Value} {first : List Value} {pos : Pos} {trees : List (Bool × Sem Value)} {Q : Value → Shared → Prop} (hp : trees.any (·.1) = false)
    (h : wX (model pw w) A (spliced trees) (fun vals s' => (∃ k, (k = Keeper.frame ∨ k = Keeper.machine) ∧ Looks (model pw w) s'.heap (keeperOf f) k) ∧ wX (model pw w) A (call f (first ++ vals)) Q s') s) :
    wX (model pw w) A (callWith pos f first trees []) Q s := by
  unfold callWith
  refine .bind (.holding (evalArgs_X hp (h.mono fun vals s' zz0 => ?_)))
  refine hide fun gp gg => ?_; obtain ⟨⟨k, hk, L⟩, q⟩ := zz0; refine gg ?_; clear gg gp
  refine .stand ?_
  simp only [hp, List.any_nil, Bool.or_false]
  refine .bind (.lift (L.here ?_))
  have tail : wX (model pw w) A (call f (first ++ vals)) (fun r s' => wX (model pw w) A (holding [r] point >>= fun _ => pure r) Q s') s' :=
    q.mono fun r s2 q2 => .bind (.holding (.lift (wpAny_point (wX.pure q2))))
  rcases hk with rfl | rfl
  · dsimp only
    split
    · exact .bind tail
    · unfold callMarked; exact .bind (.keep tail)
  · exact .bind tail
end
end Mine
end
section
set_option maxRecDepth 100000
namespace Mine
open PySem PySem.W PyProof.Rows PySem.SeqAt
theorem keep_fns (P : Params) : fnT.all (fun p => keepIn (K P) (.ref p.1)) = true := by kernel_rfl
theorem keep_cls (P : Params) (c : C) : keepIn (K P) (.ref (clsA c)) = true := by cases c <;> kernel_rfl
theorem keep_meth (P : Params) {f : Nat} {x : C × Str} (h : methN f = some x) : keepIn (K P) (.ref f) = true := by
  unfold methN at h
  split at h
  · kernel_rfl
  · kernel_rfl
  · kernel_rfl
  · kernel_rfl
  · kernel_rfl
  · cases h
section
variable {w : World} {B : Heap} {A : Around} {ρ ρ₁ : R} {h h₁ : H} {s s₁ : Shared} {Q Q₁ : K1} {env : Env} {nm : List (Str × NameKind)} {xs : List Str} {l : L} {n : Nat}
theorem none_ok : EvalOk w B n env nm xs .none := by
  intro x hx A ρ l h s Q R hr lr q
  apply inv_none hx; intro _ _ hx
  · exact .pure (PE.val' hr q rfl)
theorem bool_ok {b : Bool} : EvalOk w B n env nm xs (.bool b) := by
  intro x hx A ρ l h s Q R hr lr q
  apply inv_bool hx; intro _ _ _ hx
  · have e := beq_iff_eq.mp hx; subst e; exact .pure (PE.val' hr q rfl)
theorem int_ok {i : Int} : EvalOk w B n env nm xs (.int i) := by
  intro x hx A ρ l h s Q R hr lr q
  apply inv_int hx; intro _ _ _ hx
  · have e := beq_iff_eq.mp hx; subst e
    refine .lift ?_
    show wpAny _ _ (mkInt _) _ _ _
    exact wpAny_mkInt (PE.val hr q ⟨_, rfl⟩)
theorem str_ok {m : N} : EvalOk w B n env nm xs (.str m) := by
  intro x hx A ρ l h s Q R hr lr q
  apply inv_str hx; intro _ _ _ hx
  · have e := beq_iff_eq.mp hx; subst e
    exact .lift (Calls.Constant_str (PE.val hr q ⟨_, rfl⟩))
theorem bytes'_ok {b : List UInt8} : EvalOk w B n env nm xs (.bytes b) := by
  intro x hx A ρ l h s Q R hr lr q
  apply inv_bytes hx; intro _ _ _ hx
  · refine and2 hx fun h1 h2 => ?_
    have e := beq_iff_eq.mp h1; subst e
    exact .lift (Constant_bytes (PE.val hr q ⟨by have := of_decide_eq_true h2; (first | lia | omega), _, rfl⟩))
theorem loc'_ok {i : Nat} : EvalOk w B n env nm xs (.loc i) := by
  intro x hx A ρ l h s Q R hr lr q
  apply inv_loc hx; intro _ _ hx
  · refine and3 hx fun h1 h3 h4 => ?_
    dsimp only [vF] at q
    cases hv : l[i]? with
    | none => rw [hv] at q; exact q.elim
    | some o =>
      cases o with
      | none => rw [hv] at q; exact q.elim
      | some v => rw [hv] at q; exact .lift (loc_ok hr lr (beq_iff_eq.mp h1) h3 h4 hv q)
theorem cst_ok (bs : Base w B) {m : Str} {v : V} : EvalOk w B n env nm xs (.cst m v) := by
  intro x hx A ρ l h s Q R hr lr q
  obtain ⟨h1, h2⟩ := inv_cst hx
  obtain ⟨p, hp, h3⟩ := List.any_eq_true.mp h2
  refine and2 h3 fun h4 h5 => ?_
  have e1 := beq_iff_eq.mp h4
  have e2 := of_decide_eq_true h5
  have g := List.all_eq_true.mp (cst_all w.params) p hp
  unfold cstGood at g
  split at g
  · rename_i val hval
    rw [e1] at hval
    exact .lift (glob_ok bs hr lr h1 hval (PE.val' hr q (e2 ▸ matchesV_ok g)))
  · cases g
theorem neg_ok {a : E} (ha : EvalOk w B n env nm xs a) : EvalOk w B n env nm xs (.neg a) := by
  intro x hx A ρ l h s Q R hr lr q
  apply inv_neg hx; intro _ _ hx
  · rw [arm_eval_UnaryOp]
    refine WX.seq (ha _ hx A ρ l h s _ R hr lr q) fun v val h₁ ρ₁ s₁ q1 r1 hr1 st1 => ?_
    cases v <;> (try exact q1.elim)
    obtain ⟨t, rfl⟩ := r1
    exact .stand (.holding (.lift (Wp.shift st1 hr1 (PyProof.Rows.neg_int (PE.val hr1 q1 ⟨_, rfl⟩)))))
theorem not_ok {a : E} (ha : EvalOk w B n env nm xs a) : EvalOk w B n env nm xs (.not a) := by
  intro x hx A ρ l h s Q R hr lr q
  apply inv_not hx; intro _ _ hx
  · rw [arm_eval_UnaryOp]
    refine WX.seq (ha _ hx A ρ l h s _ R hr lr q) fun v val h₁ ρ₁ s₁ q1 r1 hr1 st1 => ?_
    cases v <;> (try exact q1.elim)
    cases r1
    exact .stand (.holding (.lift (Wp.shift st1 hr1 (not_of (wpAny_truthy_bool (PE.val' hr1 q1 rfl))))))
theorem marked1 {op : CmpOp} {e : Expr} {t : Sem Value} (h : (!behindInMarks op e) = true) : markedEach [op] [e] [t] = [t] := by
  show [markedBehindIn op e t] = [t]
  unfold markedBehindIn
  rw [show behindInMarks op e = false by simpa using h]
theorem cmp'_ok (tb : Tabs B) {op : CmpOp} {a b : E} (ha : EvalOk w B n env nm xs a) (hb : EvalOk w B n env nm xs b) : EvalOk w B n env nm xs (.cmp op a b) := by
  intro x hx A ρ l h s Q R hr lr q
  apply inv_cmp hx; intro _ _ _ _ hx
  · refine and4 hx fun h1 h3 h5 h6 => ?_
    have e := beq_iff_eq.mp h1
    subst e
    rw [arm_eval_Compare]
    refine WX.seq (ha _ h5 A ρ l h s _ R hr lr q) fun v val h₁ ρ₁ s₁ q1 r1 hr1 st1 => ?_
    show wX _ _ (compareChain _ val [op] (markedEach [op] [_] [eval _ env])) _ s₁
    rw [marked1 h3]
    refine WX.hseq (hb _ h6 A ρ₁ l h₁ s₁ _ R hr1 (lr.step st1) q1) fun v2 val2 h₂ ρ₂ s₂ q2 r2 hr2 st2 => ?_
    cases ec : cmpV op h₂ v v2 with
    | none => simp only [ec] at q2
    | some r =>
      simp only [ec] at q2
      exact .stand (.operate (.lift (Wp.shift (st1.then hr1 st2) hr2 (cmp_ok tb R.zero hr2 (r1.mono st2.sub) r2 ec q2))))
theorem ite_ok {t a b : E} (ht : TestOk w B n env nm xs t) (ha : EvalOk w B n env nm xs a) (hb : EvalOk w B n env nm xs b) : EvalOk w B n env nm xs (.ite t a b) := by
  intro x hx A ρ l h s Q R hr lr q
  apply inv_ite hx; intro _ _ _ _ hx
  · refine and3 hx fun h1 h3 h4 => ?_
    rw [arm_eval_IfExp]
    refine .bind ((ht _ h1 A ρ l h s _ R hr lr (fun v h' q' => ?_) q).mono fun c s₁ ⟨h₁, ρ₁, q1, hr1, st1⟩ => ?_)
    · cases v <;> (try exact q'.elim)
      exact ⟨_, rfl⟩
    · cases c with
      | true => exact .yes rfl (WX.shift st1 hr1 (ha _ h3 A ρ₁ l h₁ s₁ _ R hr1 (lr.step st1) q1))
      | false => exact .no (by decide) (WX.shift st1 hr1 (hb _ h4 A ρ₁ l h₁ s₁ _ R hr1 (lr.step st1) q1))
theorem tup_ok {es : Es} (hes : EvalsOk w B n env nm xs es) : EvalOk w B n env nm xs (.tup es) := by
  intro x hx A ρ l h s Q R hr lr q
  apply inv_tup hx; intro _ _ _ hx
  · refine and2 hx fun h1 h2 => ?_
    rw [arm_eval_Tuple]
    refine .stand (.bind ((hes _ h1 _ A ρ l h s _ R hr lr q).mono fun vals s₁ zz0 => ?_))
    refine hide fun gp gg => ?_; obtain ⟨q0, vs, h₁, ρ₁, q1, r1, hr1, st1⟩ := zz0; refine gg ?_; clear gg gp
    have e := r1.length
    have := of_decide_eq_true h2
    refine .lift (Wp.shift st1 hr1 (wpAny_newTuple (PE.push hr1 q1 ⟨rfl, _, _, Heap.get?_push_size _ rfl, ?_⟩) (by rw [sizeLine_eq]; (first | lia | omega))))
    exact r1.mono (sub_push _)
theorem lst_ok {es : Es} (hes : EvalsOk w B n env nm xs es) : EvalOk w B n env nm xs (.lst es) := by
  intro x hx A ρ l h s Q R hr lr q
  apply inv_lst hx; intro _ _ hx
  · refine and2 hx fun h1 h2 => ?_
    rw [arm_eval_List]
    refine .stand (.bind ((hes _ h1 _ A ρ l h s _ R hr lr q).mono fun vals s₁ zz0 => ?_))
    refine hide fun gp gg => ?_; obtain ⟨q0, vs, h₁, ρ₁, q1, r1, hr1, st1⟩ := zz0; refine gg ?_; clear gg gp
    have e := r1.length
    have := of_decide_eq_true h2
    refine .lift (Wp.shift st1 hr1 (wpAny_newList (PE.push hr1 q1 ⟨rfl, _, _, Heap.get?_push_size _ rfl, ?_⟩) (by rw [sizeLine_eq]; (first | lia | omega))))
    exact r1.mono (sub_push _)
end
end Mine
end
section
set_option maxRecDepth 100000
namespace Mine
open PySem PySem.W PyProof.Rows PySem.SeqAt
theorem boot_bytes : bootBuiltins "bytes" = some (.type "bytes") := by decide +kernel
theorem boot_bytearray : bootBuiltins "bytearray" = some (.type "bytearray") := by decide +kernel
theorem boot_abs : bootBuiltins "abs" = some (.builtin "abs") := by decide +kernel
theorem blt_of (P : Params) {n : Str} (h : bltT.contains n = true) : nsIn (K P) mainGlobals n = some none := by
  have := List.all_eq_true.mp (blt_all P) n (by simpa using h)
  exact beq_iff_eq.mp this
theorem looksM {v : Value} {M : Model} {h : Heap} (e : keeperOf v = pure .machine) : ∃ k, (k = Keeper.frame ∨ k = Keeper.machine) ∧ Looks M h (keeperOf v) k := ⟨.machine, .inr rfl, Looks.of_pure e⟩
section
variable {w : World} {B : Heap} {A : Around} {ρ ρ₁ : R} {h h₁ : H} {s s₁ : Shared} {Q Q₁ : K1} {env : Env} {nm : List (Str × NameKind)} {xs : List Str} {l : L} {n : Nat}
/-- f(a) of a builtin -/
theorem call1_X {g y : Expr} {pos : Pos} {fv : Value} {a : E} {Q' : K1} (ha : EvalOk w B n env nm xs a) (hy : mE nm xs a y = true) (R : Room A n) (hr : HR w B ρ h s) (lr : LR w B ρ env nm xs l s)
    (hg : wpAny (model pw w) A (eval g env) (fun v s' => v = fv ∧ s' = s) no s) (hk : keeperOf fv = pure .machine) (hc : ∀ ov nme apos, g ≠ .Attribute ov nme apos) (q : wpE (G w B n) a l h Q')
    (k : ∀ v val h₁ ρ₁ s₁, Q' v h₁ → RV ρ₁ v val → HR w B ρ₁ h₁ s₁ → WX w B A (call fv [val]) ρ₁ s₁ Q) : WX w B A (eval (.Call g [y] [] pos) env) ρ s Q := by
  have e : eval (.Call g [y] [] pos) env = (do callWith pos (← eval g env) [] (backTo pos (starEach [y] env)) (backToKw pos (keywordEach [] env))) := by
    cases g <;> first | rfl | exact absurd rfl (hc _ _ _)
  rw [e]
  refine .bind (.lift (wpAny_mono hg (fun v s' yy0 => ?_) fun _ _ e => e))
  obtain ⟨e1, e2⟩ := yy0
  subst e1 e2
  rw [mE_star hy]
  refine callWith_X rfl ?_
  show wX _ _ (do let v ← eval y env; let here ← pure [v]; return here ++ (← holding here (spliced []))) _ _
  refine WX.seq (ha _ hy A ρ l h s' _ R hr lr q) fun v val h₁ ρ₁ s₁ q1 r1 hr1 st1 => ?_
  exact .bind (.pure (.bind (.holding (.pure (.pure ⟨looksM hk, WX.shift st1 hr1 (k v val h₁ ρ₁ s₁ q1 r1 hr1)⟩)))))
theorem gName_no {m : Str} {g : Expr} (h : gName nm m g = true) : ∀ ov nme apos, g ≠ .Attribute ov nme apos := by
  obtain ⟨p, rfl, _⟩ := gName_of h
  intro _ _ _ e; cases e
theorem len'_ok (bs : Base w B) {a : E} (ha : EvalOk w B n env nm xs a) : EvalOk w B n env nm xs (.len a) := by
  intro x hx A ρ l h s Q R hr lr q
  apply inv_len hx; intro _ _ _ hx
  · refine and2 hx fun h1 h2 => ?_
    exact call1_X (fv := .builtin "len") ha h2 R hr lr (blt_ok bs hr lr h1 (blt_of _ (by decide +kernel)) (by decide +kernel) boot_len ⟨rfl, rfl⟩) rfl (gName_no h1) q fun v val h₁ ρ₁ s₁ q1 r1 hr1 => .lift (len_ok hr1 r1 q1)
theorem mkBytes_ok (bs : Base w B) {a : E} (ha : EvalOk w B n env nm xs a) : EvalOk w B n env nm xs (.mkBytes a) := by
  intro x hx A ρ l h s Q R hr lr q
  apply inv_mkBytes hx; intro _ _ _ hx
  · refine and2 hx fun h1 h2 => ?_
    exact call1_X (fv := .type "bytes") ha h2 R hr lr (blt_ok bs hr lr h1 (blt_of _ (by decide +kernel)) (by decide +kernel) boot_bytes ⟨rfl, rfl⟩) rfl (gName_no h1) q fun v val h₁ ρ₁ s₁ q1 r1 hr1 => .lift (bytes_ok R.zero hr1 r1 q1)
theorem mkBarr_ok (bs : Base w B) {a : E} (ha : EvalOk w B n env nm xs a) : EvalOk w B n env nm xs (.mkBarr a) := by
  intro x hx A ρ l h s Q R hr lr q
  apply inv_mkBarr hx; intro _ _ _ hx
  · refine and2 hx fun h1 h2 => ?_
    refine call1_X (fv := .type "bytearray") ha h2 R hr lr (blt_ok bs hr lr h1 (blt_of _ (by decide +kernel)) (by decide +kernel) boot_bytearray ⟨rfl, rfl⟩) rfl (gName_no h1) q fun v val h₁ ρ₁ s₁ q1 r1 hr1 => ?_
    cases v <;> (try exact q1.elim)
    obtain ⟨t, rfl⟩ := r1
    rename_i i
    refine BA.call q1.1.1 q1.1.2 fun h' hk hg => ?_
    have hm := hr1.more (tk := s₁.toks) hk
    have nw := hr1.new (Nat.le_refl _)
    have ad := hm.adopt (p := (s₁.heap.objs.size, s₁.heap.objs.size)) (o := .barr (List.replicate i.toNat 0)) (fun q hq => ⟨⟨Nat.ne_of_lt (hr1.lt hq).1, Nat.ne_of_lt (hr1.lt hq).1⟩, ⟨Nat.ne_of_lt (hr1.lt hq).2, Nat.ne_of_lt (hr1.lt hq).2⟩⟩) ⟨⟨nw.1, nw.1⟩, nw.2, nw.2⟩ ⟨rfl, by rw [hg]; simp⟩
    refine ⟨_, _, _, q1.2, ⟨_, by rw [← hr1.len, List.getElem?_append_right (Nat.le_refl _), Nat.sub_self]; rfl, rfl⟩, ad, ⟨⟨[_], rfl, fun p hp => ?_⟩, fun b o e _ => hk b o e, ⟨_, _, rfl⟩⟩⟩
    rw [List.mem_singleton.mp hp]; exact ⟨get_big (Nat.le_refl _), get_big (Nat.le_refl _)⟩
theorem absI_ok (bs : Base w B) {a : E} (ha : EvalOk w B n env nm xs a) : EvalOk w B n env nm xs (.absI a) := by
  intro x hx A ρ l h s Q R hr lr q
  apply inv_absI hx; intro _ _ _ hx
  · refine and2 hx fun h1 h2 => ?_
    refine call1_X (fv := .builtin "abs") ha h2 R hr lr (blt_ok bs hr lr h1 (blt_of _ (by decide +kernel)) (by decide +kernel) boot_abs ⟨rfl, rfl⟩) rfl (gName_no h1) q fun v val h₁ ρ₁ s₁ q1 r1 hr1 => ?_
    cases v <;> (try exact q1.elim)
    obtain ⟨t, rfl⟩ := r1
    exact .lift (abs_ok hr1 q1)
theorem toInt'_ok (bs : Base w B) {a : E} (ha : EvalOk w B n env nm xs a) : EvalOk w B n env nm xs (.toInt a) := by
  intro x hx A ρ l h s Q R hr lr q
  apply inv_toInt hx; intro _ _ _ hx
  · refine and2 hx fun h1 h2 => ?_
    refine call1_X (fv := .type "int") ha h2 R hr lr (blt_ok bs hr lr h1 (blt_of _ (by decide +kernel)) (by decide +kernel) boot_int ⟨rfl, rfl⟩) rfl (gName_no h1) q fun v val h₁ ρ₁ s₁ q1 r1 hr1 => ?_
    cases v <;> (try exact q1.elim)
    obtain ⟨t, rfl⟩ := r1
    exact .lift (toInt_ok hr1 q1)
/-- f(..) of the text's own -/
theorem call_ok (bs : Base w B) {f : Nat} {es : Es} (hes : EvalsOk w B n env nm xs es) : EvalOk w B n env nm xs (.call f es) := by
  intro x hx A ρ l h s Q R hr lr q
  apply inv_call hx; intro _ _ _ hx
  · rename_i g ys pos
    refine and3 hx fun h1 h3 h4 => ?_
    obtain ⟨p, hp, h5⟩ := List.any_eq_true.mp h1
    refine and2 h5 fun h6 h7 => ?_
    have e1 := beq_iff_eq.mp h6
    obtain ⟨g1, g2⟩ := Bool.and_eq_true_iff.mp (List.all_eq_true.mp (fn_all w.params) p hp)
    have kp := List.all_eq_true.mp (keep_fns w.params) p hp
    rw [e1] at g1 kp
    have e : eval (.Call g ys [] pos) env = (do callWith pos (← eval g env) [] (backTo pos (starEach ys env)) (backToKw pos (keywordEach [] env))) := by
      obtain ⟨pp, rfl, _⟩ := gName_of h7; rfl
    rw [e]
    refine .bind (.lift (glob_ok bs hr lr h7 (beq_iff_eq.mp g1) ?_))
    refine callWith_X (mEs_plain pos es ys h3).1 ((hes _ h3 pos A ρ l h s _ R hr lr q).mono fun vals s₁ zz0 => ?_)
    refine hide fun gp gg => ?_; obtain ⟨_, vs, h₁, ρ₁, q1, r1, hr1, st1⟩ := zz0; refine gg ?_; clear gg gp
    exact ⟨looks_keep kp (hr1.K bs), WX.shift st1 hr1 (q1 A ρ₁ s₁ vals R.two hr1 r1)⟩
theorem base_ok {o : Expr} {a : Str} {t : Sem Value} (h : notSuper o = true) : attributeBase o a env t = t := by
  cases o with
  | Call f xs ks p =>
    cases f with
    | Name y q =>
      rcases xs with _ | ⟨_, _⟩
      · rcases ks with _ | ⟨_, _⟩
        · cases h
        · rfl
      · rfl
    | _ => rfl
  | _ => rfl
theorem attr'_ok (bs : Base w B) {o : E} {m : N} (ho : EvalOk w B n env nm xs o) : EvalOk w B n env nm xs (.attr o m) := by
  intro x hx A ρ l h s Q R hr lr q
  apply inv_attr hx; intro _ _ _ hx
  · refine and3 hx fun h1 h3 h4 => ?_
    have e := beq_iff_eq.mp h1; subst e
    rw [arm_eval_Attribute, base_ok h3]
    refine WX.seq (ho _ h4 A ρ l h s _ R hr lr q) fun v val h₁ ρ₁ s₁ q1 r1 hr1 st1 => ?_
    refine .stand (WX.hseq (.lift (attr_ok bs hr1 r1 q1)) fun v2 val2 h₂ ρ₂ s₂ q2 r2 hr2 st2 => ?_)
    exact .bind (.lift (wpAny_letTemporaryGo (.pure ((PE.val' hr2 q2 r2).shift (st1.then hr1 st2) hr2))))
/-- what stands in [ ] -/
theorem tail_X {value slice : Expr} {o i : Value} {vs : List Value} {P : Value → Shared → Prop} (hsub : subscripted slice false o i = operate vs (getItem o i)) (hi : ItemOn (model pw w) A no o i P s) :
    wX (model pw w) A (do let r ← subscripted slice (← getitemInPython o) o i; letTemporaryGo value o r; pure r) P s := by
  refine hide fun gp gg => ?_; obtain ⟨T, id, hl, hT, hg⟩ := hi; refine gg ?_; clear gg gp
  refine .bind ?_
  rw [getitemInPython_of_ne hT.not_modules]
  refine .bind (.lift (wpAny_specialOf hT hl ?_))
  refine .pure ?_
  rw [hsub]
  exact .bind (.operate (.lift (wpAny_mono hg (fun r s' p => .bind (.lift (wpAny_letTemporaryGo (.pure p)))) fun _ _ e => e)))
theorem subs_plain {slice : Expr} {o i : Value} (h : ∀ a b p, slice ≠ .Slice a b none p) : subscripted slice false o i = operate [o, i] (getItem o i) := by
  cases slice with
  | Slice a b c p =>
    cases c with
    | none => exact absurd rfl (h _ _ _)
    | some _ => rfl
  | _ => rfl
theorem mE_noSlice {e : E} {y : Expr} (h : mE nm xs e y = true) : ∀ a b p, y ≠ .Slice a b none p := by
  rintro a b p rfl
  exact absurd ((show mE _ _ e (.Slice a b none p) = false by cases e <;> rfl).symm.trans h) (by decide)
theorem idx'_ok (tb : Tabs B) {o i : E} (ho : EvalOk w B n env nm xs o) (hi : EvalOk w B n env nm xs i) : EvalOk w B n env nm xs (.idx o i) := by
  intro x hx A ρ l h s Q R hr lr q
  apply inv_idx hx; intro _ _ _ hx
  · refine and2 hx fun h1 h2 => ?_
    rw [arm_eval_Subscript]
    refine WX.seq (ho _ h1 A ρ l h s _ R hr lr q) fun v val h₁ ρ₁ s₁ q1 r1 hr1 st1 => ?_
    refine WX.hseq (hi _ h2 A ρ₁ l h₁ s₁ _ R hr1 (lr.step st1) q1) fun v2 val2 h₂ ρ₂ s₂ q2 r2 hr2 st2 => ?_
    refine .stand (wX.mono (tail_X (subs_plain (mE_noSlice h2)) (idx_ok tb hr2 (r1.mono st2.sub) r2 q2)) fun _ _ z => z.shift (st1.then hr1 st2) hr2)
theorem part_ok {i : Int} {t : Tok} : IsPart (.int i t) (some i) := .int i t
/-- a slice object made -/
theorem slice_N {x : V} {lo hi : Option Int} {vx vl vu : Value} {P : Value → Shared → Prop} (hr : HR w B ρ h s) (rx : RV ρ x vx) (hl : IsPart vl lo) (hu : IsPart vu hi) (q : wpSlc x lo hi h Q)
    (k : ∀ a s₁, HR w B ρ h s₁ → Step ρ ρ s s₁ → ItemOn (model pw w) A no vx (.ref a) (PE w B ρ s₁ Q) s₁ → P (.ref a) s₁) : wX (model pw w) A (newFields "slice" [vl, vu, .none]) P s := by
  refine .lift ?_
  show wpAny _ _ (newObj (.type "slice") (.fields #[vl, vu, .none])) _ _ _
  refine wpAny_newObj_type ?_ (by show _ ≤ _; rw [sizeLine_eq]; simp)
  have hk : ∀ b o, s.heap.get? b = some o → (s.heap.push { cls := .type "slice", data := .fields #[vl, vu, .none] }).get? b = some o := fun b o e => Heap.get?_push_of_some _ e
  have hm := hr.more (tk := s.toks) hk
  exact k _ _ hm (Step.more hk) (slc_ok hm rx hl hu (Heap.IsSliceOf.new ..) q)
theorem slcF_ok {o lo : E} (ho : EvalOk w B n env nm xs o) (hlo : EvalOk w B n env nm xs lo) : EvalOk w B n env nm xs (.slcF o lo) := by
  intro x hx A ρ l h s Q R hr lr q
  apply inv_slcF hx; intro _ _ _ _ hx
  · refine and2 hx fun h1 h2 => ?_
    rw [arm_eval_Subscript]
    refine WX.seq (ho _ h1 A ρ l h s _ R hr lr q) fun v val h₁ ρ₁ s₁ q1 r1 hr1 st1 => ?_
    refine .bind (.holding ?_)
    rw [arm_eval_Slice]
    refine WX.seq (hlo _ h2 A ρ₁ l h₁ s₁ _ R hr1 (lr.step st1) q1) fun v2 val2 h₂ ρ₂ s₂ q2 r2 hr2 st2 => ?_
    cases v2 <;> (try exact q2.elim)
    obtain ⟨t, rfl⟩ := r2
    refine .bind (.holding (.pure (.bind (.holding (.pure ?_)))))
    exact slice_N hr2 (r1.mono st2.sub) part_ok .none q2 fun a s₃ hr3 st3 it => .stand (wX.mono (tail_X rfl it) fun _ _ z => z.shift ((st1.then hr1 st2).then hr2 st3) hr3)
theorem slcT_ok {o hi : E} (ho : EvalOk w B n env nm xs o) (hhi : EvalOk w B n env nm xs hi) : EvalOk w B n env nm xs (.slcT o hi) := by
  intro x hx A ρ l h s Q R hr lr q
  apply inv_slcT hx; intro _ _ _ _ hx
  · refine and2 hx fun h1 h2 => ?_
    rw [arm_eval_Subscript]
    refine WX.seq (ho _ h1 A ρ l h s _ R hr lr q) fun v val h₁ ρ₁ s₁ q1 r1 hr1 st1 => ?_
    refine .bind (.holding ?_)
    rw [arm_eval_Slice]
    refine .bind (.pure ?_)
    refine WX.hseq (hhi _ h2 A ρ₁ l h₁ s₁ _ R hr1 (lr.step st1) q1) fun v2 val2 h₂ ρ₂ s₂ q2 r2 hr2 st2 => ?_
    cases v2 <;> (try exact q2.elim)
    obtain ⟨t, rfl⟩ := r2
    refine .bind (.holding (.pure ?_))
    exact slice_N hr2 (r1.mono st2.sub) .none part_ok q2 fun a s₃ hr3 st3 it => .stand (wX.mono (tail_X rfl it) fun _ _ z => z.shift ((st1.then hr1 st2).then hr2 st3) hr3)
theorem slc'_ok {o lo hi : E} (ho : EvalOk w B n env nm xs o) (hlo : EvalOk w B n env nm xs lo) (hhi : EvalOk w B n env nm xs hi) : EvalOk w B n env nm xs (.slc o lo hi) := by
  intro x hx A ρ l h s Q R hr lr q
  apply inv_slc hx; intro _ _ _ _ _ hx
  · refine and3 hx fun h1 h3 h4 => ?_
    rw [arm_eval_Subscript]
    refine WX.seq (ho _ h1 A ρ l h s _ R hr lr q) fun v val h₁ ρ₁ s₁ q1 r1 hr1 st1 => ?_
    refine .bind (.holding ?_)
    rw [arm_eval_Slice]
    refine WX.seq (hlo _ h3 A ρ₁ l h₁ s₁ _ R hr1 (lr.step st1) q1) fun v2 val2 h₂ ρ₂ s₂ q2 r2 hr2 st2 => ?_
    have st12 := st1.then hr1 st2
    refine WX.hseq (hhi _ h4 A ρ₂ l h₂ s₂ _ R hr2 (lr.step st12) q2) fun v3 val3 h₃ ρ₃ s₃ q3 r3 hr3 st3 => ?_
    cases v2 <;> (try exact q3.elim)
    cases v3 <;> (try exact q3.elim)
    obtain ⟨t, rfl⟩ := r2
    obtain ⟨u, rfl⟩ := r3
    refine .bind (.holding (.pure ?_))
    exact slice_N hr3 ((r1.mono st2.sub).mono st3.sub) part_ok part_ok q3 fun a s₄ hr4 st4 it => .stand (wX.mono (tail_X rfl it) fun _ _ z => z.shift ((st12.then hr2 st3).then hr3 st4) hr4)
end
end Mine
end
section
set_option maxRecDepth 100000
namespace Mine
open PySem PySem.W PyProof.Rows PySem.SeqAt
section
variable {w : World} {B : Heap} {A : Around} {ρ ρ₁ : R} {h h₁ : H} {s s₁ : Shared} {Q Q₁ : K1} {env : Env} {nm : List (Str × NameKind)} {xs : List Str} {l : L} {n : Nat}
theorem method_X {o' : Expr} {name : Str} {apos pos : Pos} {ys : List Expr} {P : Value → Shared → Prop} (hb : notSuper o' = true) (hl : (apos.endLine == pos.line) = true) (hp : (backTo pos (starEach ys env)).all (!·.1) = true) (hn : ys.length ≤ 20)
    (ho : WX w B A (eval o' env) ρ s Q₁)
    (k : ∀ v val h₁ ρ₁ s₁, Q₁ v h₁ → RV ρ₁ v val → HR w B ρ₁ h₁ s₁ → Step ρ ρ₁ s s₁ → ∃ f first, (∀ pl, wpAny (model pw w) A (getMethod val name pl) (fun r s' => r = (f, first) ∧ s' = s₁) no s₁) ∧
      wX (model pw w) A (callWith pos f first (backTo pos (starEach ys env)) []) P s₁) : wX (model pw w) A (eval (.Call (.Attribute o' name apos) ys [] pos) env) P s := by
  rw [arm_eval_Call, base_ok hb]
  refine WX.seq ho fun v val h₁ ρ₁ s₁ q1 r1 hr1 st1 => ?_
  refine hide fun gp gg => ?_; obtain ⟨f, first, hg, hc⟩ := k v val h₁ ρ₁ s₁ q1 r1 hr1 st1; refine gg ?_; clear gg gp
  refine .stand ?_
  show wX _ _ (methodCall o' name apos pos env val (ys.length + 0) (backTo pos (starEach ys env)) []) _ _
  have form : methodCallForm (ys.length + 0) (backTo pos (starEach ys env)) [] = true := by
    unfold methodCallForm
    rw [hp]
    simp; (first | lia | omega)
  unfold methodCall
  rw [form]
  refine .bind (.holding (.lift (wpAny_mono (hg _) (fun r s' yy0 => ?_) fun _ _ e => e)))
  obtain ⟨e1, e2⟩ := yy0
  subst e1 e2
  refine .bind (.of_eq (a := pos) ?_ hc)
  unfold methodCallPos
  simp [hl]
theorem meth_ok (bs : Base w B) {o : E} {f : Nat} {es : Es} (ho : EvalOk w B n env nm xs o) (hes : EvalsOk w B n env nm xs es) : EvalOk w B n env nm xs (.meth o f es) := by
  intro x hx A ρ l h s Q R hr lr q
  apply inv_meth hx; intro _ _ _ _ _ hx
  · rename_i o' name apos ys pos
    refine and6 hx fun h1 h3 h5 h7 h9 h10 => ?_
    have pl := mEs_plain (env := env) pos es ys h9
    refine method_X h5 h3 pl.2.1 (of_decide_eq_true h10) (ho _ h7 A ρ l h s _ R hr lr q) fun v val h₁ ρ₁ s₁ q1 r1 hr1 st1 => ?_
    refine vObjE q1 fun k ev q1 => ?_; subst ev
    refine oInst q1 fun c fs e q1 => ?_
    · skip
      obtain ⟨hc, q1⟩ := q1
      refine hide fun gp gg => ?_; obtain ⟨⟨c', nm'⟩, hm, he⟩ := Option.map_eq_some_iff.mp hc; refine gg ?_; clear gg gp
      dsimp only at he
      subst he
      have en : nm' = name := by rw [hm] at h1; exact beq_iff_eq.mp h1
      subst en
      obtain ⟨m1, m2, m3⟩ := cls_meth w.params hm
      refine hide fun gp gg => ?_; obtain ⟨p, hp, rfl, ro⟩ := hr1.val e r1; refine gg ?_; clear gg gp
      refine hide fun gp gg => ?_; obtain ⟨es', nn, g1, g2, re⟩ := ro; refine gg ?_; clear gg gp
      have I : InstAt s₁.heap p.1 (instObj (clsA c') p.2) (clsA c') (some (dictOf es' nn)) := ⟨g1, rfl, rfl, g2⟩
      refine ⟨.ref f, [.ref p.1], fun _ => method_fn (hr1.K bs) I (cls_get _ c').1 (cls_get _ c').2 m1 (beq_iff_eq.mp m2) ?_ ⟨rfl, rfl⟩, ?_⟩
      · obtain ⟨i1, i2⟩ := REs.find_none m3 re
        show (getL _ es').map _ = _
        unfold getL
        rw [i1, i2]; rfl
      · refine callWith_X pl.1 ((hes _ h9 pos A ρ₁ l h₁ s₁ _ R hr1 (lr.step st1) q1).mono fun vals s₂ zz0 => ?_)
        refine hide fun gp gg => ?_; obtain ⟨_, vs, h₂, ρ₂, q2, r2, hr2, st2⟩ := zz0; refine gg ?_; clear gg gp
        exact ⟨looks_keep (keep_meth _ hm) (hr2.K bs), WX.shift (st1.then hr1 st2) hr2 (q2 A ρ₂ s₂ _ R.two hr2 ⟨r1.mono st2.sub, r2⟩)⟩
/-- one argument of a builtin method -/
theorem arg1_X {a : E} {y : Expr} {pos : Pos} {f : Value} {first : List Value} {P : Value → Shared → Prop} {Q' : K1} (ha : EvalOk w B n env nm xs a) (hy : mE nm xs a y = true) (R : Room A n) (hr : HR w B ρ h s) (lr : LR w B ρ env nm xs l s) (hk : keeperOf f = pure .machine)
    (q : wpE (G w B n) a l h Q') (k : ∀ v val h₁ ρ₁ s₁, Q' v h₁ → RV ρ₁ v val → HR w B ρ₁ h₁ s₁ → Step ρ ρ₁ s s₁ → wX (model pw w) A (call f (first ++ [val])) P s₁) :
    wX (model pw w) A (callWith pos f first (backTo pos (starEach [y] env)) []) P s := by
  rw [mE_star hy]
  refine callWith_X rfl ?_
  show wX _ _ (do let v ← eval y env; let here ← pure [v]; return here ++ (← holding here (spliced []))) _ _
  refine WX.seq (ha _ hy A ρ l h s _ R hr lr q) fun v val h₁ ρ₁ s₁ q1 r1 hr1 st1 => ?_
  exact .bind (.pure (.bind (.holding (.pure (.pure ⟨looksM hk, k v val h₁ ρ₁ s₁ q1 r1 hr1 st1⟩)))))
theorem plain1 {a : E} {y : Expr} {pos : Pos} (hy : mE nm xs a y = true) : (backTo pos (starEach [y] env)).all (!·.1) = true := by rw [mE_star hy]; rfl
theorem nodict {o : O} {p : Addr × Addr} (r : RO w ρ s.heap p o) (hi : ∀ c fs, o ≠ .inst c fs) (hro : ∀ x l', o ≠ .ro x l') : ∀ a, Value.ref p.1 = .ref a → ∃ ob, s.heap.get? a = some ob ∧ ob.dict = none := by
  intro a e
  cases e
  cases o with
  | list l => obtain ⟨_, _, _, e, _⟩ := r; exact ⟨_, e, rfl⟩
  | tup l => obtain ⟨_, _, _, e, _⟩ := r; exact ⟨_, e, rfl⟩
  | dict kv => obtain ⟨_, _, ob, e, ⟨_, _, i, _⟩, _⟩ := r; exact ⟨ob, e, i.2.1⟩
  | inst c fs => exact absurd rfl (hi c fs)
  | barr b => obtain ⟨_, e⟩ := r; exact ⟨_, e, rfl⟩
  | ro x l' => exact absurd rfl (hro x l')
theorem append'_ok {o a : E} (ho : EvalOk w B n env nm xs o) (ha : EvalOk w B n env nm xs a) : EvalOk w B n env nm xs (.append o a) := by
  intro x hx A ρ l h s Q R hr lr q
  apply inv_append hx; intro _ _ _ _ _ hx
  · rename_i o' name apos y pos
    refine and5 hx fun h1 h3 h5 h7 h8 => ?_
    have en := beq_iff_eq.mp h1; subst en
    refine method_X h5 h3 (plain1 h8) (by simp) (ho _ h7 A ρ l h s _ R hr lr q) fun v val h₁ ρ₁ s₁ q1 r1 hr1 st1 => ?_
    revert r1; apply vObj q1; intro k q1 r1
    refine oList q1 fun _ e q1 => ?_
    · skip
      refine hide fun gp gg => ?_; obtain ⟨p, hp, rfl, ro⟩ := hr1.val e r1; refine gg ?_; clear gg gp
      have nd := nodict ro (fun _ _ e => by cases e) (fun _ _ e => by cases e)
      refine hide fun gp gg => ?_; obtain ⟨_, ar, nn, g, _⟩ := ro; refine gg ?_; clear gg gp
      refine ⟨.builtin "list.append", [.ref p.1], fun _ => getMethod_builtin ⟨_, g, rfl⟩ F.plainAttrs_list F.slot_list_append F.type_list_append nd ⟨rfl, rfl⟩, ?_⟩
      refine arg1_X ha h8 R hr1 (lr.step st1) rfl q1 fun v2 val2 h₂ ρ₂ s₂ q2 r2 hr2 st2 => ?_
      refine oList q2 fun _ e2 q2 => ?_
      · skip
        exact .lift (Wp.shift (st1.then hr1 st2) hr2 (append_ok hr2 (r1.mono st2.sub) r2 e2 q2.1 q2.2))
theorem update'_ok {o a : E} (ho : EvalOk w B n env nm xs o) (ha : EvalOk w B n env nm xs a) : EvalOk w B n env nm xs (.update o a) := by
  intro x hx A ρ l h s Q R hr lr q
  apply inv_update hx; intro _ _ _ _ _ hx
  · rename_i o' name apos y pos
    refine and5 hx fun h1 h3 h5 h7 h8 => ?_
    have en := beq_iff_eq.mp h1; subst en
    refine method_X h5 h3 (plain1 h8) (by simp) (ho _ h7 A ρ l h s _ R hr lr q) fun v val h₁ ρ₁ s₁ q1 r1 hr1 st1 => ?_
    revert r1; apply vObj q1; intro i q1 r1
    refine oDict q1 fun _ e q1 => ?_
    · skip
      refine hide fun gp gg => ?_; obtain ⟨p, hp, rfl, ro⟩ := hr1.val e r1; refine gg ?_; clear gg gp
      have nd := nodict ro (fun _ _ e => by cases e) (fun _ _ e => by cases e)
      refine hide fun gp gg => ?_; obtain ⟨_, kvs, ob', g, ⟨_, _, ex, _⟩, _⟩ := ro; refine gg ?_; clear gg gp
      refine ⟨.builtin "dict.update", [.ref p.1], fun _ => getMethod_builtin ⟨_, g, ex.1⟩ F.plainAttrs_dict F.slot_dict_update F.type_dict_update nd ⟨rfl, rfl⟩, ?_⟩
      refine arg1_X ha h8 R hr1 (lr.step st1) rfl q1 fun v2 val2 h₂ ρ₂ s₂ q2 r2 hr2 st2 => ?_
      revert r2; apply vObj q2; intro j q2 r2
      refine oDict q2 fun _ e2 q2 => ?_
      · skip
        refine oDict q2 fun _ e3 q2 => ?_
        · skip
          exact .lift (Wp.shift (st1.then hr1 st2) hr2 (update_ok hr2 (r1.mono st2.sub) r2 e2 e3 q2.1.1 q2.1.2 q2.2))
theorem index'_ok (tb : Tabs B) {o a : E} (ho : EvalOk w B n env nm xs o) (ha : EvalOk w B n env nm xs a) : EvalOk w B n env nm xs (.index o a) := by
  intro x hx A ρ l h s Q R hr lr q
  apply inv_index hx; intro _ _ _ _ _ hx
  · rename_i o' name apos y pos
    refine and5 hx fun h1 h3 h5 h7 h8 => ?_
    have en := beq_iff_eq.mp h1; subst en
    refine method_X h5 h3 (plain1 h8) (by simp) (ho _ h7 A ρ l h s _ R hr lr q) fun v val h₁ ρ₁ s₁ q1 r1 hr1 st1 => ?_
    obtain ⟨hv, q1⟩ := q1
    rcases hv with rfl | rfl
    · cases r1
      have g := hr1.base _ _ tb.sizes
      refine ⟨.builtin "tuple.index", [.ref 75], fun _ => getMethod_builtin ⟨_, g, rfl⟩ F.plainAttrs_tuple F.slot_tuple_index F.type_tuple_index (fun a e => by cases e; exact ⟨_, g, rfl⟩) ⟨rfl, rfl⟩, ?_⟩
      refine arg1_X ha h8 R hr1 (lr.step st1) rfl q1 fun v2 val2 h₂ ρ₂ s₂ q2 r2 hr2 st2 => ?_
      unfold wpIndex at q2
      cases v2 <;> (try exact q2.elim)
      obtain ⟨t, rfl⟩ := r2
      rename_i i
      cases ep : posOf (.int i) sizesL with
      | none => simp only [ep] at q2
      | some k => simp only [ep] at q2; exact .lift (Wp.shift (st1.then hr1 st2) hr2 (sizes_index tb hr2 ep q2))
    · cases r1
      have g := hr1.base _ _ tb.kinds
      refine ⟨.builtin "list.index", [.ref 167], fun _ => getMethod_builtin ⟨_, g, rfl⟩ F.plainAttrs_list F.slot_list_index F.type_list_index (fun a e => by cases e; exact ⟨_, g, rfl⟩) ⟨rfl, rfl⟩, ?_⟩
      refine arg1_X ha h8 R hr1 (lr.step st1) rfl q1 fun v2 val2 h₂ ρ₂ s₂ q2 r2 hr2 st2 => ?_
      unfold wpIndex at q2
      cases v2 <;> (try exact q2.elim)
      obtain ⟨t, rfl⟩ := r2
      rename_i m
      cases ep : posOf (.str m) kindsL with
      | none => simp only [ep] at q2
      | some k => simp only [ep] at q2; exact .lift (Wp.shift (st1.then hr1 st2) hr2 (kinds_index tb hr2 ep q2))
theorem type_join : typeOf (.builtin "bytes.join") = pure (.type "method_descriptor") := by show builtinType _ = _; rw [builtinType_eq_fast]; kernel_rfl
theorem join'_ok {o a : E} (ho : EvalOk w B n env nm xs o) (ha : EvalOk w B n env nm xs a) : EvalOk w B n env nm xs (.join o a) := by
  intro x hx A ρ l h s Q R hr lr q
  apply inv_join hx; intro _ _ _ _ _ hx
  · rename_i o' name apos y pos
    refine and5 hx fun h1 h3 h5 h7 h8 => ?_
    have en := beq_iff_eq.mp h1; subst en
    refine method_X h5 h3 (plain1 h8) (by simp) (ho _ h7 A ρ l h s _ R hr lr q) fun v val h₁ ρ₁ s₁ q1 r1 hr1 st1 => ?_
    obtain ⟨rfl, q1⟩ := q1
    obtain ⟨_, t, rfl⟩ := r1
    refine ⟨.builtin "bytes.join", [.bytes #[] t], fun _ => getMethod_builtin (typeIs_bytes _ _ _) FB.plainAttrs_bytes BJ.slot type_join (fun a e => by cases e) ⟨rfl, rfl⟩, ?_⟩
    refine arg1_X ha h8 R hr1 (lr.step st1) rfl q1 fun v2 val2 h₂ ρ₂ s₂ q2 r2 hr2 st2 => ?_
    revert r2; apply vObj q2; intro k q2 r2
    refine oList q2 fun vs e2 q2 => ?_
    · skip
      cases eb : bytesOf vs with
      | none => simp only [eb] at q2
      | some bs =>
        simp only [eb] at q2
        exact .lift (Wp.shift (st1.then hr1 st2) hr2 (join_ok hr2 r2 e2 eb q2.1.1 q2.1.2 q2.2))
theorem pop0_ok {o : E} (ho : EvalOk w B n env nm xs o) : EvalOk w B n env nm xs (.pop0 o) := by
  intro x hx A ρ l h s Q R hr lr q
  apply inv_pop0 hx; intro _ _ _ _ _ _ _ hx
  · rename_i o' name apos i kk kp pos
    refine and5 hx fun h1 h3 h5 h7 h8 => ?_
    have en := beq_iff_eq.mp h1; subst en
    have ei := beq_iff_eq.mp h3; subst ei
    refine method_X h7 h5 rfl (by simp) (ho _ h8 A ρ l h s _ R hr lr q) fun v val h₁ ρ₁ s₁ q1 r1 hr1 st1 => ?_
    revert r1; apply vObj q1; intro k q1 r1
    refine oList q1 fun vs e q1 => ?_
    · skip
      cases vs with
      | nil => exact q1.elim
      | cons v0 r0 =>
        refine hide fun gp gg => ?_; obtain ⟨p, hp, rfl, ro⟩ := hr1.val e r1; refine gg ?_; clear gg gp
        have nd := nodict ro (fun _ _ e => by cases e) (fun _ _ e => by cases e)
        refine hide fun gp gg => ?_; obtain ⟨_, ar, nn, g, _⟩ := ro; refine gg ?_; clear gg gp
        refine ⟨.builtin "list.pop", [.ref p.1], fun _ => getMethod_builtin ⟨_, g, rfl⟩ F.plainAttrs_list PySem.F.slot_list_pop F.type_list_pop nd ⟨rfl, rfl⟩, ?_⟩
        refine arg1_X (a := .int 0) int_ok (by show ((0 : Int) == 0) = true; rfl) R hr1 (lr.step st1) rfl (Q' := fun v h' => v = .int 0 ∧ h' = h₁) ⟨rfl, rfl⟩ fun v2 val2 h₂ ρ₂ s₂ q2 r2 hr2 st2 => ?_
        obtain ⟨rfl, rfl⟩ := q2
        obtain ⟨t, rfl⟩ := r2
        exact .lift (Wp.shift (st1.then hr1 st2) hr2 (pop_ok hr2 (r1.mono st2.sub) e q1.1 q1.2))
end
end Mine
end
section
set_option maxRecDepth 100000
namespace Mine
open PySem PySem.W PyProof.Rows PySem.SeqAt
section
variable {w : World} {B : Heap} {A : Around} {ρ ρ₁ : R} {h h₁ : H} {s s₁ : Shared} {Q Q₁ : K1} {env : Env} {nm : List (Str × NameKind)} {xs : List Str} {l : L} {n : Nat}
theorem truthy_X {b : Bool} {vs : List Value} {P : Bool → Shared → Prop} (h : P b s) : wX (model pw w) A (holding vs (truthy (.bool b))) P s := .holding (.lift (wpAny_truthy_bool h))
noncomputable def AndOk (w : World) (B : Heap) (n : Nat) (env : Env) (nm : List (Str × NameKind)) (xs : List Str) (es : Es) : Prop :=
  ∀ ys, mEs nm xs es ys = true → ∀ (pos : Pos) (A : Around) (ρ : R) (l : L) (h : H) (s : Shared) (Q : K1), Room A n → HR w B ρ h s → LR w B ρ env nm xs l s →
    (wpAnd (G w B n) es l h Q → WX w B A (boolOp pos .And (evalEach ys env)) ρ s Q ∧ (IsB Q → wX (model pw w) A (allTrue .And ys env) (PB w B ρ s Q) s)) ∧
    (wpOr (G w B n) es l h Q → WX w B A (boolOp pos .Or (evalEach ys env)) ρ s Q ∧ (IsB Q → wX (model pw w) A (allTrue .Or ys env) (PB w B ρ s Q) s))
theorem and_nil : AndOk w B n env nm xs .nil := by
  intro ys hy pos A ρ l h s Q R hr lr
  exact ⟨fun q => (False.elim q), fun q => (False.elim q)⟩
theorem PB.shift {b : Bool} {s' : Shared} (st : Step ρ ρ₁ s s₁) (x : HR w B ρ₁ h₁ s₁) (p : PB w B ρ₁ s₁ Q b s') : PB w B ρ s Q b s' := by
  refine hide fun gp gg => ?_; obtain ⟨h', ρ', q, hr, st'⟩ := p; refine gg ?_; clear gg gp
  exact ⟨h', ρ', q, hr, st.then x st'⟩
theorem and_cons {e : E} {r : Es} (he : EvalOk w B n env nm xs e) (ht : TestOk w B n env nm xs e) (hrest : AndOk w B n env nm xs r) : AndOk w B n env nm xs (.cons e r) := by
  intro ys hy pos A ρ l h s Q R hr lr
  cases ys with
  | nil => exact nomatch (show false = true from hy)
  | cons y ys =>
    refine and2 hy fun h1 h2 => ?_
    cases r with
    | nil =>
      have e0 : ys = [] := by
        cases ys with
        | nil => rfl
        | cons _ _ => exact nomatch (show false = true from h2)
      subst e0
      constructor
      · intro q
        refine ⟨he _ h1 A ρ l h s Q R hr lr q, fun hb => ?_⟩
        rw [arm_allTrue_cons]
        refine .bind ((ht _ h1 A ρ l h s Q R hr lr hb q).mono fun b s₁ p => ?_)
        cases b
        · exact .pure p
        · exact .pure p
      · intro q
        refine ⟨he _ h1 A ρ l h s Q R hr lr q, fun hb => ?_⟩
        rw [arm_allTrue_cons]
        refine .bind ((ht _ h1 A ρ l h s Q R hr lr hb q).mono fun b s₁ p => ?_)
        cases b
        · exact .pure p
        · exact .pure p
    | cons e' r' =>
      obtain ⟨y', ys', rfl⟩ : ∃ y' ys', ys = y' :: ys' := by
        cases ys with
        | nil => exact nomatch (show false = true from h2)
        | cons y' ys' => exact ⟨_, _, rfl⟩
      constructor
      · intro q
        constructor
        · show wX _ _ (do let v ← eval y env; standAt pos; let t ← holding [v] (truthy v); match BoolOp.And, t with | .And, false | .Or, true => pure v | _, _ => boolOp pos .And (evalEach (y' :: ys') env)) _ s
          refine WX.seq (he _ h1 A ρ l h s _ R hr lr q) fun v val h₁ ρ₁ s₁ q1 r1 hr1 st1 => ?_
          cases v <;> (try exact q1.elim)
          rename_i b
          cases r1
          refine .stand (.bind (truthy_X ?_))
          cases b
          · exact .pure ⟨_, _, _, q1, rfl, hr1, st1⟩
          · exact WX.shift st1 hr1 ((hrest _ h2 pos A ρ₁ l h₁ s₁ Q R hr1 (lr.step st1)).1 q1).1
        · intro hb
          rw [arm_allTrue_cons]
          refine .bind ((ht _ h1 A ρ l h s _ R hr lr (fun v h' q' => ?_) q).mono fun b s₁ ⟨h₁, ρ₁, q1, hr1, st1⟩ => ?_)
          · cases v <;> (try exact q'.elim)
            exact ⟨_, rfl⟩
          · cases b
            · exact .pure ⟨_, _, q1, hr1, st1⟩
            · exact wX.mono (((hrest _ h2 pos A ρ₁ l h₁ s₁ Q R hr1 (lr.step st1)).1 q1).2 hb) fun _ _ p => p.shift st1 hr1
      · intro q
        constructor
        · show wX _ _ (do let v ← eval y env; standAt pos; let t ← holding [v] (truthy v); match BoolOp.Or, t with | .And, false | .Or, true => pure v | _, _ => boolOp pos .Or (evalEach (y' :: ys') env)) _ s
          refine WX.seq (he _ h1 A ρ l h s _ R hr lr q) fun v val h₁ ρ₁ s₁ q1 r1 hr1 st1 => ?_
          cases v <;> (try exact q1.elim)
          rename_i b
          cases r1
          refine .stand (.bind (truthy_X ?_))
          cases b
          · exact WX.shift st1 hr1 ((hrest _ h2 pos A ρ₁ l h₁ s₁ Q R hr1 (lr.step st1)).2 q1).1
          · exact .pure ⟨_, _, _, q1, rfl, hr1, st1⟩
        · intro hb
          rw [arm_allTrue_cons]
          refine .bind ((ht _ h1 A ρ l h s _ R hr lr (fun v h' q' => ?_) q).mono fun b s₁ ⟨h₁, ρ₁, q1, hr1, st1⟩ => ?_)
          · cases v <;> (try exact q'.elim)
            exact ⟨_, rfl⟩
          · cases b
            · exact wX.mono (((hrest _ h2 pos A ρ₁ l h₁ s₁ Q R hr1 (lr.step st1)).2 q1).2 hb) fun _ _ p => p.shift st1 hr1
            · exact .pure ⟨_, _, q1, hr1, st1⟩
theorem and_ok {es : Es} (hes : AndOk w B n env nm xs es) : EvalOk w B n env nm xs (.and es) ∧ TestOk w B n env nm xs (.and es) := by
  constructor
  · intro x hx A ρ l h s Q R hr lr q
    apply inv_and hx; intro _ _ hx
    · exact ((hes _ hx _ A ρ l h s Q R hr lr).1 q).1
  · intro x hx A ρ l h s Q R hr lr hb q
    apply inv_and hx; intro _ _ hx
    · rename_i ys pos
      exact ((hes _ hx pos A ρ l h s Q R hr lr).1 q).2 hb
theorem or_ok {es : Es} (hes : AndOk w B n env nm xs es) : EvalOk w B n env nm xs (.or es) ∧ TestOk w B n env nm xs (.or es) := by
  constructor
  · intro x hx A ρ l h s Q R hr lr q
    apply inv_or hx; intro _ _ hx
    · exact ((hes _ hx _ A ρ l h s Q R hr lr).2 q).1
  · intro x hx A ρ l h s Q R hr lr hb q
    apply inv_or hx; intro _ _ hx
    · rename_i ys pos
      exact ((hes _ hx pos A ρ l h s Q R hr lr).2 q).2 hb
/- tests -/
noncomputable def plainTest : Expr → Bool
  | .UnaryOp .Not _ _ | .BoolOp _ _ _ | .IfExp _ _ _ _ | .Compare _ _ _ _ => false
  | _ => true
theorem isTrue_plain {x : Expr} (h : plainTest x = true) (t : Sem Value) : isTrue x env t = (do let v ← t; standAt x.pos; holding [v] (truthy v)) := by
  cases x with
  | UnaryOp op y p => cases op <;> first | rfl | cases h
  | BoolOp _ _ _ => cases h
  | IfExp _ _ _ _ => cases h
  | Compare _ _ _ _ => cases h
  | _ => rfl
theorem test_plain {e : E} (he : EvalOk w B n env nm xs e) (hp : ∀ x, mE nm xs e x = true → plainTest x = true) : TestOk w B n env nm xs e := by
  intro x hx A ρ l h s Q R hr lr hb q
  rw [isTrue_plain (hp x hx)]
  refine WX.seq (he _ hx A ρ l h s Q R hr lr q) fun v val h₁ ρ₁ s₁ q1 r1 hr1 st1 => ?_
  obtain ⟨b, rfl⟩ := hb _ _ q1
  cases r1
  exact .stand (truthy_X ⟨_, _, q1, hr1, st1⟩)
theorem test_not {a : E} (ha : TestOk w B n env nm xs a) : TestOk w B n env nm xs (.not a) := by
  intro x hx A ρ l h s Q R hr lr hb q
  apply inv_not hx; intro _ _ hx
  · rw [arm_isTrue_UnaryOp]
    refine .bind ((ha _ hx A ρ l h s _ R hr lr (fun v h' q' => ?_) q).mono fun b s₁ ⟨h₁, ρ₁, q1, hr1, st1⟩ => .pure ⟨h₁, ρ₁, q1, hr1, st1⟩)
    cases v <;> (try exact q'.elim)
    exact ⟨_, rfl⟩
theorem test_cmp (tb : Tabs B) {op : CmpOp} {a b : E} (ha : EvalOk w B n env nm xs a) (hb : EvalOk w B n env nm xs b) : TestOk w B n env nm xs (.cmp op a b) := by
  intro x hx A ρ l h s Q R hr lr _ q
  apply inv_cmp hx; intro _ _ _ _ hx
  · refine and4 hx fun h1 h3 h5 h6 => ?_
    have e := beq_iff_eq.mp h1
    subst e
    rw [arm_isTrue_Compare]
    refine WX.seq (ha _ h5 A ρ l h s _ R hr lr q) fun v val h₁ ρ₁ s₁ q1 r1 hr1 st1 => ?_
    show wX _ _ (testChain _ val [op] (markedEach [op] [_] [eval _ env])) _ s₁
    rw [marked1 h3]
    refine WX.hseq (hb _ h6 A ρ₁ l h₁ s₁ _ R hr1 (lr.step st1) q1) fun v2 val2 h₂ ρ₂ s₂ q2 r2 hr2 st2 => ?_
    cases ec : cmpV op h₂ v v2 with
    | none => simp only [ec] at q2
    | some r =>
      simp only [ec] at q2
      refine .stand (WX.seq (Q₁ := fun v h' => v = .bool r ∧ Q v h') (.operate (.lift (cmp_ok tb R.zero hr2 (r1.mono st2.sub) r2 ec ⟨rfl, q2⟩))) fun v3 val3 h₃ ρ₃ s₃ q3 r3 hr3 st3 => ?_)
      obtain ⟨rfl, q3⟩ := q3
      cases r3
      exact truthy_X ⟨_, _, q3, hr3, (st1.then hr1 st2).then hr2 st3⟩
end
end Mine
end
section
set_option maxRecDepth 100000
namespace Mine
open PySem PySem.W PyProof.Rows PySem.SeqAt
section
variable {w : World} {B : Heap} {A : Around} {ρ ρ₁ : R} {h h₁ : H} {s s₁ : Shared} {Q Q₁ : K1} {env : Env} {nm : List (Str × NameKind)} {xs : List Str} {l : L} {n : Nat}
theorem marked2 {p1 p2 : CmpOp} {r1 r2 : Expr} {t1 t2 : Sem Value} (h : (!behindInMarks p2 r2) = true) : markedEach [p1, p2] [r1, r2] [t1, t2] = [t1, t2] := by
  show t1 :: markedEach [p2] [r2] [t2] = _
  rw [marked1 h]
theorem cmp2_ok (tb : Tabs B) {o1 o2 : CmpOp} {a b c : E} (ha : EvalOk w B n env nm xs a) (hb : EvalOk w B n env nm xs b) (hc : EvalOk w B n env nm xs c) : EvalOk w B n env nm xs (.cmp2 o1 o2 a b c) ∧ TestOk w B n env nm xs (.cmp2 o1 o2 a b c) := by
  constructor
  · intro x hx A ρ l h s Q R hr lr q
    apply inv_cmp2 hx; intro _ _ _ _ _ _ hx
    · refine and6 hx fun g1 g2 g3 g4 g5 g6 => ?_
      have e1 := beq_iff_eq.mp g1; subst e1
      have e2 := beq_iff_eq.mp g2; subst e2
      rw [arm_eval_Compare]
      refine WX.seq (ha _ g4 A ρ l h s _ R hr lr q) fun v val h₁ ρ₁ s₁ q1 r1 hr1 st1 => ?_
      show wX _ _ (compareChain _ val [_, _] (markedEach [_, _] [_, _] [eval _ env, eval _ env])) _ s₁
      rw [marked2 g3]
      refine WX.hseq (hb _ g5 A ρ₁ l h₁ s₁ _ R hr1 (lr.step st1) q1) fun v2 val2 h₂ ρ₂ s₂ q2 r2 hr2 st2 => ?_
      have st12 := st1.then hr1 st2
      cases ec : cmpV o1 h₂ v v2 with
      | none => simp only [ec] at q2
      | some r =>
        simp only [ec] at q2
        refine .stand (WX.hseq (Q₁ := fun v h' => v = .bool r ∧ h' = h₂) (.lift (cmp_ok tb R.zero hr2 (r1.mono st2.sub) r2 ec ⟨rfl, rfl⟩)) fun v3 val3 h₃ ρ₃ s₃ q3 r3 hr3 st3 => ?_)
        obtain ⟨rfl, rfl⟩ := q3
        cases r3
        have st123 := st12.then hr2 st3
        refine .bind (.lift (wpAny_release (.bind (truthy_X ?_))))
        cases r with
        | false => exact .no (by decide) (.pure ⟨_, _, _, q2, rfl, hr3, st123⟩)
        | true =>
          refine .yes rfl ?_
          refine WX.hseq (hc _ g6 A ρ₃ l _ s₃ _ R hr3 (lr.step st123) q2) fun v4 val4 h₄ ρ₄ s₄ q4 r4 hr4 st4 => ?_
          cases ec2 : cmpV o2 h₄ v2 v4 with
          | none => simp only [ec2] at q4
          | some r' =>
            simp only [ec2] at q4
            exact .stand (.operate (.lift (Wp.shift (st123.then hr3 st4) hr4 (cmp_ok tb R.zero hr4 ((r2.mono st3.sub).mono st4.sub) r4 ec2 q4))))
  · intro x hx A ρ l h s Q R hr lr _ q
    apply inv_cmp2 hx; intro _ _ _ _ _ _ hx
    · refine and6 hx fun g1 g2 g3 g4 g5 g6 => ?_
      have e1 := beq_iff_eq.mp g1; subst e1
      have e2 := beq_iff_eq.mp g2; subst e2
      rw [arm_isTrue_Compare]
      refine WX.seq (ha _ g4 A ρ l h s _ R hr lr q) fun v val h₁ ρ₁ s₁ q1 r1 hr1 st1 => ?_
      show wX _ _ (testChain _ val [_, _] (markedEach [_, _] [_, _] [eval _ env, eval _ env])) _ s₁
      rw [marked2 g3]
      refine WX.hseq (hb _ g5 A ρ₁ l h₁ s₁ _ R hr1 (lr.step st1) q1) fun v2 val2 h₂ ρ₂ s₂ q2 r2 hr2 st2 => ?_
      have st12 := st1.then hr1 st2
      cases ec : cmpV o1 h₂ v v2 with
      | none => simp only [ec] at q2
      | some r =>
        simp only [ec] at q2
        refine .stand (WX.hseq (Q₁ := fun v h' => v = .bool r ∧ h' = h₂) (.lift (cmp_ok tb R.zero hr2 (r1.mono st2.sub) r2 ec ⟨rfl, rfl⟩)) fun v3 val3 h₃ ρ₃ s₃ q3 r3 hr3 st3 => ?_)
        obtain ⟨rfl, rfl⟩ := q3
        cases r3
        have st123 := st12.then hr2 st3
        refine .bind (.lift (wpAny_release (.bind (truthy_X ?_))))
        cases r with
        | false => exact .no (by decide) (.pure ⟨_, _, q2, hr3, st123⟩)
        | true =>
          refine .yes rfl ?_
          refine WX.hseq (hc _ g6 A ρ₃ l _ s₃ _ R hr3 (lr.step st123) q2) fun v4 val4 h₄ ρ₄ s₄ q4 r4 hr4 st4 => ?_
          cases ec2 : cmpV o2 h₄ v2 v4 with
          | none => simp only [ec2] at q4
          | some r' =>
            simp only [ec2] at q4
            refine .stand (WX.seq (Q₁ := fun v h' => v = .bool r' ∧ Q v h') (.operate (.lift (cmp_ok tb R.zero hr4 ((r2.mono st3.sub).mono st4.sub) r4 ec2 ⟨rfl, q4⟩))) fun v5 val5 h₅ ρ₅ s₅ q5 r5 hr5 st5 => ?_)
            obtain ⟨rfl, q5⟩ := q5
            cases r5
            exact truthy_X ⟨_, _, q5, hr5, (st123.then hr3 st4).then hr4 st5⟩
theorem test_ite {t a b : E} (ht : TestOk w B n env nm xs t) (ha : TestOk w B n env nm xs a) (hb : TestOk w B n env nm xs b) : TestOk w B n env nm xs (.ite t a b) := by
  intro x hx A ρ l h s Q R hr lr hB q
  apply inv_ite hx; intro _ _ _ _ hx
  · refine and3 hx fun h1 h3 h4 => ?_
    rw [arm_isTrue_IfExp]
    refine .bind ((ht _ h1 A ρ l h s _ R hr lr (fun v h' q' => ?_) q).mono fun c s₁ ⟨h₁, ρ₁, q1, hr1, st1⟩ => ?_)
    · cases v <;> (try exact q'.elim)
      exact ⟨_, rfl⟩
    · cases c with
      | true => exact .yes rfl (wX.mono (ha _ h3 A ρ₁ l h₁ s₁ _ R hr1 (lr.step st1) hB q1) fun _ _ p => p.shift st1 hr1)
      | false => exact .no (by decide) (wX.mono (hb _ h4 A ρ₁ l h₁ s₁ _ R hr1 (lr.step st1) hB q1) fun _ _ p => p.shift st1 hr1)
end
end Mine
end
section
set_option maxRecDepth 100000
namespace Mine
open PySem PySem.W PyProof.Rows PySem.SeqAt
noncomputable def KRel (ρ : R) : List N → List V → List (Value × Value) → Prop
  | [], [], [] => True
  | k :: ks, v :: vs, p :: ps => ((∃ t, p.1 = .str k.s t) ∧ RV ρ v p.2) ∧ KRel ρ ks vs ps
  | _, _, _ => False
section
variable {w : World} {B : Heap} {A : Around} {ρ ρ₁ : R} {h h₁ : H} {s s₁ : Shared} {Q Q₁ : K1} {env : Env} {nm : List (Str × NameKind)} {xs : List Str} {l : L} {n : Nat}
noncomputable def PairsOk (w : World) (B : Heap) (n : Nat) (env : Env) (nm : List (Str × NameKind)) (xs : List Str) (es : Es) : Prop :=
  ∀ (ks : List N) (keys : List (Option Expr)) (ys : List Expr), mKeys ks keys = true → mEs nm xs es ys = true → keys.length = ys.length → ∀ (pos : Pos) (A : Around) (ρ : R) (l : L) (h : H) (s : Shared) (Q : List V → H → Prop),
    Room A n → HR w B ρ h s → LR w B ρ env nm xs l s → wpEs (G w B n) es l h Q →
    wX (model pw w) A (evalPairs (pairTrees keys ys env pos)) (fun ps s' => ps.length = keys.length ∧ ∃ vs h' ρ', Q vs h' ∧ KRel ρ' ks vs ps ∧ HR w B ρ' h' s' ∧ Step ρ ρ' s s') s
theorem pairs_nil : PairsOk w B n env nm xs .nil := by
  intro ks keys ys hk hy hl pos A ρ l h s Q R hr lr q
  cases ys with
  | cons _ _ => exact nomatch (show false = true from hy)
  | nil =>
    cases keys with
    | cons _ _ => cases hl
    | nil =>
      cases ks with
      | cons _ _ => cases hk
      | nil => exact .pure ⟨rfl, [], h, ρ, q, trivial, hr, .refl⟩
theorem pairs_cons {e : E} {es : Es} (he : EvalOk w B n env nm xs e) (hes : PairsOk w B n env nm xs es) : PairsOk w B n env nm xs (.cons e es) := by
  intro ks keys ys hk hy hl pos A ρ l h s Q R hr lr q
  cases ys with
  | nil => exact nomatch (show false = true from hy)
  | cons y ys =>
    refine and2 hy fun h1 h2 => ?_
    cases keys with
    | nil => cases hl
    | cons k0 keys =>
      cases ks with
      | nil => cases hk
      | cons kn ks =>
        refine hide fun gp gg => ?_; obtain ⟨⟨⟨x, kk, kp⟩, e1⟩, _, hk⟩ := on_inv hk; refine gg ?_; clear gg gp
        · subst e1
          refine and2 hk fun h3 h4 => ?_
          have e3 := beq_iff_eq.mp h3; subst e3
          show wX _ _ (do let kv ← eval (.Constant (.str kn.s) kk kp) env; let vv ← holding [kv] (do let x ← eval y env; standAt pos; pure x); return (kv, vv) :: (← holding [kv, vv] (evalPairs (pairTrees keys ys env pos)))) _ s
          refine .bind (.lift (Calls.Constant_str ?_))
          have hr0 := hr.toks (s.toks + 1)
          have st0 : Step ρ ρ s { s with toks := s.toks + 1 } := .toks
          refine .bind (.holding (WX.seq (he _ h1 A ρ l h _ _ R hr0 (lr.step st0) q) fun v val h₁ ρ₁ s₁ q1 r1 hr1 st1 => .stand (.pure ?_)))
          refine .bind (.holding ((hes ks keys ys h4 h2 (by simpa using hl) pos A ρ₁ l h₁ s₁ _ R hr1 (lr.step (st0.then hr0 st1)) q1).mono fun ps s₂ zz0 => ?_))
          refine hide fun gp gg => ?_; obtain ⟨hk, vs, h₂, ρ₂, q2, r2, hr2, st2⟩ := zz0; refine gg ?_; clear gg gp
          exact .pure ⟨by simp [hk], v :: vs, h₂, ρ₂, q2, ⟨⟨⟨_, rfl⟩, r1.mono st2.sub⟩, r2⟩, hr2, (st0.then hr0 st1).then hr1 st2⟩
theorem KRel.carries : ∀ {ks : List N} {vs : List V} {ps : List (Value × Value)}, KRel ρ ks vs ps → ∃ kvs : List (Str × Value), Carries (strKind pw w) ps kvs ∧ RDs ρ (ks.zip vs) kvs ∧ kvs.map (·.1) = ks.map N.s ∧ kvs.length = ps.length
  | [], [], [], _ => ⟨[], trivial, trivial, rfl, rfl⟩
  | k :: ks, v :: vs, p :: ps, r => by
    refine hide fun gp gg => ?_; obtain ⟨⟨⟨t, e⟩, rv⟩, r2⟩ := r; refine gg ?_; clear gg gp
    refine hide fun gp gg => ?_; obtain ⟨kvs, c1, c2, c3, c4⟩ := KRel.carries r2; refine gg ?_; clear gg gp
    refine ⟨(k.s, p.2) :: kvs, ?_, ⟨⟨rfl, rv⟩, c2⟩, by rw [List.map_cons, List.map_cons, c3], by simp [c4]⟩
    obtain ⟨p1, p2⟩ := p
    dsimp only at e
    subst e
    exact ⟨strKind_is _ _ _ _, rfl, c1⟩
  | [], _ :: _, _, r => r.elim
  | [], [], _ :: _, r => r.elim
  | _ :: _, [], _, r => r.elim
  | _ :: _, _ :: _, [], r => r.elim
theorem nodup_map {ks : List N} (h : ks.Nodup) : (ks.map N.s).Nodup := by
  induction ks with
  | nil => simp
  | cons k ks ih =>
    rw [List.nodup_cons] at h
    rw [List.map_cons, List.nodup_cons]
    refine ⟨fun hm => ?_, ih h.2⟩
    obtain ⟨k', hk', e⟩ := List.mem_map.mp hm
    exact h.1 (N.s_inj e ▸ hk')
theorem mKeys_some : ∀ (ks : List N) (keys : List (Option Expr)), mKeys ks keys = true → keys.all (·.isSome) = true
  | [], [], _ => rfl
  | n :: ns, k :: r, h => by
    refine hide fun gp gg => ?_; obtain ⟨⟨_, e1⟩, _, h⟩ := on_inv h; refine gg ?_; clear gg gp
    subst e1
    show (true && r.all (·.isSome)) = true
    rw [mKeys_some ns r (Bool.and_eq_true_iff.mp h).2]; rfl
  | [], _ :: _, h => by cases h
  | _ :: _, [], h => by cases h
theorem dct_ok {ks : List N} {es : Es} (hes : PairsOk w B n env nm xs es) : EvalOk w B n env nm xs (.dct ks es) := by
  intro x hx A ρ l h s Q R hr lr q
  apply inv_dct hx; intro _ _ _ hx
  · rename_i keys ys pos
    refine and5 hx fun h1 h2 h3 h4 h5 => ?_
    have h3 := of_decide_eq_true h3
    have h4 := of_decide_eq_true h4
    have h5 := of_decide_eq_true h5
    have hall := mKeys_some ks keys h1
    have hn := pairTrees_length keys ys env pos hall h3
    rw [arm_eval_Dict, zip_pairTrees keys ys env pos hall h3, dictDisplay_pairs _ (by intro e; rw [e] at hn; simp at hn; (first | lia | omega)) (by (first | lia | omega))]
    refine .stand (.bind ?_)
    unfold subDict
    refine .bind (.lift (wpAny_alloc ?_))
    have h0 := Heap.get?_push_size s.heap (o := { cls := .type "dict", data := .dict #[] }) rfl
    have hk0 : ∀ b o, s.heap.get? b = some o → (s.heap.push { cls := .type "dict", data := .dict #[] }).get? b = some o := fun b o e => Heap.get?_push_of_some _ e
    have hm := hr.more (tk := s.toks) hk0
    have st0 : Step ρ ρ s { s with heap := s.heap.push { cls := .type "dict", data := .dict #[] } } := .more hk0
    have nw := hr.new (Nat.le_refl _)
    refine .bind (.holding (.yes (by (first | lia | omega)) ?_))
    refine .bind ((hes ks keys ys h1 h2 h3 pos A ρ l h _ _ R hm (lr.step st0) q).mono fun ps s₁ zz0 => ?_)
    refine hide fun gp gg => ?_; obtain ⟨hl, vs, h₁, ρ₁, ⟨⟨q0, q1⟩, q2⟩, kr, hr1, st1⟩ := zz0; refine gg ?_; clear gg gp
    refine hide fun gp gg => ?_; obtain ⟨kvs, c1, c2, c3, c4⟩ := KRel.carries (w := w) kr; refine gg ?_; clear gg gp
    have free : ∀ q ∈ ρ₁, (q.1 ≠ s.heap.objs.size ∧ q.1 ≠ s.heap.objs.size) ∧ (q.2 ≠ s.heap.objs.size ∧ q.2 ≠ s.heap.objs.size) := fun p hp => by
      obtain ⟨g, e, hg⟩ := st1.ext
      rw [e] at hp
      rcases List.mem_append.mp hp with hp | hp
      · exact ⟨⟨Nat.ne_of_lt (hr.lt hp).1, Nat.ne_of_lt (hr.lt hp).1⟩, ⟨Nat.ne_of_lt (hr.lt hp).2, Nat.ne_of_lt (hr.lt hp).2⟩⟩
      · have e1 : p.1 ≠ s.heap.objs.size := fun e => by have := (hg p hp).1; rw [e, h0] at this; cases this
        have e2 : p.2 ≠ s.heap.objs.size := fun e => by have := (hg p hp).2; rw [e, h0] at this; cases this
        exact ⟨⟨e1, e1⟩, ⟨e2, e2⟩⟩
    have hd : s₁.heap.get? s.heap.objs.size = some { cls := .type "dict", data := .dict #[] } := st1.pres _ _ h0 fun p hp => ⟨Ne.symm (Nat.ne_of_lt (hr.lt hp).1), Ne.symm (Nat.ne_of_lt (hr.lt hp).2)⟩
    have hdo : s₁.heap.DictOf (strKind pw w) s.heap.objs.size [] := ⟨_, #[], 0, hd, ⟨rfl, rfl, rfl⟩, rfl, fun _ h => by simp at h, .nil, by simp⟩
    refine .holding (.bind (.lift (wpAny_storeAll (knd := strKind pw w) ps kvs [] s₁ _ c1 hdo (by rw [sizeLine_eq, List.length_nil]; (first | lia | omega)) fun h' hm' hs' => ?_)))
    rw [merged_nil_of_nodup kvs (by rw [c3]; exact nodup_map q1)] at hm'
    obtain ⟨ob, g, id⟩ := Heap.dictOf_iff.mp hm'
    have hr2 : HR w B ρ₁ h₁ { s₁ with heap := h', toks := s₁.toks + ps.length } := by
      refine ⟨hr1.len, fun b o e => hs'.extBut b o (fun e' => ?_) (hr1.base b o e), fun k o p e1 e2 => (hr1.objs k o p e1 e2).mono (fun _ _ e => e) (fun x e => hs'.extBut _ _ (free p (List.mem_of_getElem? e2)).1.1 e) fun x e => hs'.extBut _ _ (free p (List.mem_of_getElem? e2)).2.1 e, hr1.apart, hr1.fresh, hr1.g3⟩
      rw [e', nw.1] at e; cases e
    have ad := hr2.adopt (p := (s.heap.objs.size, s.heap.objs.size)) (o := .dict (ks.zip vs)) free ⟨⟨nw.1, nw.1⟩, nw.2, nw.2⟩ ⟨rfl, kvs, ob, g, id, c2.mono (sub_push _)⟩
    refine .pure (.pure (.pure ⟨_, _, _, q2, ⟨_, by rw [← hr1.len, List.getElem?_append_right (Nat.le_refl _), Nat.sub_self]; rfl, rfl⟩, ad, ?_⟩))
    have st2 := st0.then hm st1
    obtain ⟨g', e', hg'⟩ := st2.ext
    refine ⟨⟨g' ++ [_], by rw [e', List.append_assoc], fun p hp => ?_⟩, fun b o e hb => hs'.extBut b o (fun e' => ?_) (st2.pres b o e hb), ?_⟩
    · rcases List.mem_append.mp hp with hp | hp
      · exact hg' p hp
      · rw [List.mem_singleton.mp hp]; exact ⟨get_big (Nat.le_refl _), get_big (Nat.le_refl _)⟩
    · rw [e'] at e; exact absurd (Heap.lt_size e) (Nat.lt_irrefl _)
    · obtain ⟨a1, b1, e1⟩ := st2.rest
      rw [e1]; exact ⟨_, _, rfl⟩
end
end Mine
end
section
set_option maxRecDepth 100000
namespace Mine
open PySem PySem.W PyProof.Rows PySem.SeqAt
theorem cls_makes (P : Params) (c : C) : makesIn (K P) (clsA c) = true := by cases c <;> kernel_rfl
theorem cls_init (P : Params) (c : C) : findIn (K P) (.ref (clsA c)) "__init__" = some (some (.ref (initOf c))) ∧ typeIn (K P) (.ref (initOf c)) = some (.type "function") := by cases c <;> exact ⟨by kernel_rfl, by kernel_rfl⟩
section
variable {w : World} {B : Heap} {A : Around} {ρ ρ₁ : R} {h h₁ : H} {s s₁ : Shared} {Q Q₁ : K1} {env : Env} {nm : List (Str × NameKind)} {xs : List Str} {l : L} {n : Nat}
theorem cX.call_at {id : String} {args : Args} {b : Builtin} {R : Result → Shared → Prop} (hq : (Code.builtin id args).quiet = true) (hn : lenders.contains id = false) (hb : entryFor table id = some b)
    (h : wX (model pw w) A.in1 (checkBuiltinCall id args) (fun _ s₁ => wX (model pw w) (A.under (.builtin id args)) (b args)
      (fun fin s' => match fin with | .done f => R (.ok f) s' | .again c' => c'.quiet = true ∧ cX (model pw w) A c' R s') s₁) s) : cX (model pw w) A (.call (.builtin id) args) R s := by
  refine .tree rfl ?_
  show wX _ A.in1 (do checkBuiltinCall id args; again (.builtin id args)) _ s
  exact .bind (h.mono fun _ s₁ h₁ => .pure ⟨hq, .builtin hn hb h₁⟩)
theorem make_X {C : Addr} {vals : List Value} {init : Value} {Q : Value → Shared → Prop} (Y : Makes (model pw w) s.heap C) (hi : Looks (model pw w) s.heap (typeLookup (.ref C) "__init__") (some init))
    (hb : ∀ self, Looks (model pw w) s.heap (bindSpecial init self) (init, [self])) (hne : (some init != some (Value.builtin "object.__init__")) = true)
    (hq : wX (model pw w) (A.under (.builtin "type.__call__" ⟨.ref C :: vals, []⟩)) (call init (.ref (s.heap.objs.size + 1) :: vals)) (fun v s' => v = .none ∧ Q (.ref (s.heap.objs.size + 1)) s') { s with heap := (s.heap.push emptyDict).push (instObj C s.heap.objs.size) }) :
    wX (model pw w) A (call (.ref C) vals) Q s := by
  have Y' := Y
  refine hide fun gp gg => ?_; obtain ⟨⟨oc, od, cd, sl, hC, e1, e2, e4⟩, made, base, self, top, call', typ⟩ := Y; refine gg ?_; clear gg gp
  refine .call (.tree rfl ?_)
  show wX _ _ (callAny (.ref C) _) _ _
  refine .bind (.lift (wpAny_load hC ?_))
  show wX _ _ (callAny.viaDunder (.ref C) _) _ _
  unfold callAny.viaDunder
  refine .bind (.lift (call'.here ?_))
  dsimp only
  rw [tc_bind]
  refine .bind (.pure (.bind (.pure (.yes rfl ?_))))
  refine .pure ⟨rfl, .call_at (Code.quiet_builtin _ (by decide +kernel)) (by decide +kernel) entry_typeCall (.lift (check_slot tc_kind tc_split typ (tc_args _ _ _) ?_))⟩
  unfold Builtin.«type.__call__»
  dsimp only
  have hm : Looks (model pw w) s.heap (mroOf (.ref C)) cd.mro := ((Looks.ld (part := none) hC).andThen .now).andThen .now
  refine .no (by rw [show (Value.ref C == Value.type "type") = false from rfl]; exact Bool.false_ne_true) ?_
  refine .bind (.lift (hm.here ?_))
  refine .no (by rw [e4]; exact Bool.false_ne_true) ?_
  refine .bind (.lift (made.here ?_))
  refine .bind (.pure ?_)
  refine .bind (.holding (.call (.lift (codeAny_mono (new_K (R := wants (fun obj s₁ => obj = .ref (s.heap.objs.size + 1) ∧ s₁ = { s with heap := (s.heap.push emptyDict).push (instObj C s.heap.objs.size) }) (fun _ _ => False)) Y' hi (.inl hne) ⟨rfl, rfl⟩) fun r s₁ hr => ?_))))
  cases r with
  | error e => exact hr.elim
  | ok fl =>
    cases fl with
    | ret obj =>
      obtain ⟨rfl, rfl⟩ := hr
      refine ⟨_, rfl, ?_⟩
      have k : ∀ b o, s.heap.get? b = some o → ((s.heap.push emptyDict).push (instObj C s.heap.objs.size)).get? b = some o := fun b o e => Heap.get?_push_of_some _ (Heap.get?_push_of_some _ e)
      have hx : ((s.heap.push emptyDict).push (instObj C s.heap.objs.size)).get? (s.heap.objs.size + 1) = some (instObj C s.heap.objs.size) := by heap_get
      have t1 : Looks (model pw w) ((s.heap.push emptyDict).push (instObj C s.heap.objs.size)) (typeOf (.ref (s.heap.objs.size + 1))) (.ref C) := (Looks.ld hx).andThen .now
      have i1 : Looks (model pw w) ((s.heap.push emptyDict).push (instObj C s.heap.objs.size)) (isInstance (.ref (s.heap.objs.size + 1)) (.ref C)) true := t1.andThen (self.keeps k)
      have l1 : Looks (model pw w) ((s.heap.push emptyDict).push (instObj C s.heap.objs.size)) (specialOf (.ref (s.heap.objs.size + 1)) "__init__") (some init) := t1.andThen (hi.keeps k)
      refine .bind (.lift (i1.here ?_))
      refine .no (by decide) ?_
      refine .bind (.holding ?_)
      unfold callSpecial?
      refine .bind (.lift (l1.here ?_))
      refine .holding (.bind (.lift (((hb (.ref (s.heap.objs.size + 1))).keeps k).here ?_)))
      refine .bind (hq.mono fun v s' ⟨e, q⟩ => .pure ?_)
      subst e
      exact .no (by decide) (.pure ⟨_, rfl, q⟩)
    | _ => exact hr.elim
theorem mk_ok (bs : Base w B) {c : C} {es : Es} (hes : EvalsOk w B n env nm xs es) : EvalOk w B n env nm xs (.mk c es) := by
  intro x hx A ρ l h s Q R hr lr q
  apply inv_mk hx; intro _ _ _ hx
  · rename_i g ys pos
    refine and3 hx fun h1 h3 h4 => ?_
    have e : eval (.Call g ys [] pos) env = (do callWith pos (← eval g env) [] (backTo pos (starEach ys env)) (backToKw pos (keywordEach [] env))) := by
      obtain ⟨pp, rfl, _⟩ := gName_of h1; rfl
    rw [e]
    refine .bind (.lift (glob_ok bs hr lr h1 (cls_all _ c) ?_))
    refine callWith_X (mEs_plain pos es ys h3).1 ((hes _ h3 pos A ρ l h s _ R hr lr q).mono fun vals s₁ ⟨_, vs, h₁, ρ₁, q1, r1, hr1, st1⟩ => ⟨looks_keep (keep_cls _ c) (hr1.K bs), ?_⟩)
    have X := hr1.K bs
    obtain ⟨i1, i2⟩ := cls_init w.params c
    refine WX.shift st1 hr1 (make_X (makes_of X (cls_makes _ c)) (looks_findIn X i1) (fun self => bind_fn X self i2) rfl ?_)
    have k : ∀ b o, s₁.heap.get? b = some o → ((s₁.heap.push emptyDict).push (instObj (clsA c) s₁.heap.objs.size)).get? b = some o := fun b o e => Heap.get?_push_of_some _ (Heap.get?_push_of_some _ e)
    have g1 : ((s₁.heap.push emptyDict).push (instObj (clsA c) s₁.heap.objs.size)).get? (s₁.heap.objs.size + 1) = some (instObj (clsA c) s₁.heap.objs.size) := by heap_get
    have g2 : ((s₁.heap.push emptyDict).push (instObj (clsA c) s₁.heap.objs.size)).get? s₁.heap.objs.size = some (dictOf [] 0) := Heap.get?_push_of_some _ (Heap.get?_push_size _ rfl)
    have hm := hr1.more (tk := s₁.toks) k
    have n1 := hr1.new (Nat.le_refl _)
    have n2 := hr1.new (Nat.le_succ _)
    have ad := hm.adopt (p := (s₁.heap.objs.size + 1, s₁.heap.objs.size)) (o := .inst c []) (fun q hq => ⟨⟨Nat.ne_of_lt (Nat.lt_succ_of_lt (hr1.lt hq).1), Nat.ne_of_lt (hr1.lt hq).1⟩, ⟨Nat.ne_of_lt (Nat.lt_succ_of_lt (hr1.lt hq).2), Nat.ne_of_lt (hr1.lt hq).2⟩⟩)
      ⟨⟨n2.1, n1.1⟩, n2.2, n1.2⟩ ⟨[], 0, g1, g2, trivial⟩
    have st0 : Step ρ₁ (ρ₁ ++ [(s₁.heap.objs.size + 1, s₁.heap.objs.size)]) s₁ { s₁ with heap := (s₁.heap.push emptyDict).push (instObj (clsA c) s₁.heap.objs.size) } := by
      refine ⟨⟨[_], rfl, fun p hp => ?_⟩, fun b o e _ => k b o e, ⟨_, _, rfl⟩⟩
      rw [List.mem_singleton.mp hp]; exact ⟨get_big (Nat.le_succ _), get_big (Nat.le_refl _)⟩
    have R2 : Roo2 (A.under (.builtin "type.__call__" ⟨.ref (clsA c) :: vals, []⟩)) n := ⟨R.handled, by have := R.depth; show A.depth + 1 + 4 * n + 2 < _; (first | lia | omega), by have := R.units; show A.units + 1 + 8 * n + 4 < _; (first | lia | omega)⟩
    have rx : RV (ρ₁ ++ [(s₁.heap.objs.size + 1, s₁.heap.objs.size)]) (.obj h₁.length) (.ref (s₁.heap.objs.size + 1)) := ⟨_, by rw [← hr1.len, List.getElem?_append_right (Nat.le_refl _), Nat.sub_self]; rfl, rfl⟩
    refine wX.mono (q1 _ _ _ _ R2 ad ⟨rx, r1.mono (sub_push _)⟩) fun v s' zz0 => ?_
    refine hide fun gp gg => ?_; obtain ⟨v', h', ρ', ⟨e1, q2⟩, r2, hr2, st2⟩ := zz0; refine gg ?_; clear gg gp
    subst e1
    exact ⟨r2, _, _, _, q2, rx.mono st2.sub, hr2, st0.then ad st2⟩
end
end Mine
end
section
set_option maxRecDepth 100000
namespace Mine
open PySem PySem.W PyProof.Rows PySem.SeqAt
noncomputable def FlR (ρ : R) : Fl → Flow → Prop
  | .next, f => f = .next
  | .brk, f => f = .brk
  | .ret v, f => ∃ val, f = .ret val ∧ RV ρ v val
/-- the places of a function's own names are no older than its call -/
structure Own (env : Env) (s₀ : Shared) : Prop where
  loc : s₀.heap.get? env.locals = none
  cel : ∀ x c, env.cells.lookup x = some c → s₀.heap.get? c = none
section
variable {w : World} {B : Heap} {A : Around} {ρ ρ₁ ρ₀ : R} {h h₁ : H} {s s₁ s₀ : Shared} {env : Env} {nm : List (Str × NameKind)} {xs : List Str} {l : L} {n : Nat}
/-- the machine changes one place that is none of the text's objects -/
theorem HR.other (hr : HR w B ρ h s) {a : Addr} {h' : Heap} {tk : Nat} (hs : Heap.SameBut a s.heap h') (hb : B.get? a = none) (hp : ∀ p ∈ ρ, a ≠ p.1 ∧ a ≠ p.2) : HR w B ρ h { s with heap := h', toks := tk } := by
  refine ⟨hr.len, fun b o e => hs.extBut b o (fun e' => ?_) (hr.base b o e), fun k o p e1 e2 => (hr.objs k o p e1 e2).mono (fun _ _ e => e) (fun x e => hs.extBut _ _ (Ne.symm (hp p (List.mem_of_getElem? e2)).1) e) fun x e => hs.extBut _ _ (Ne.symm (hp p (List.mem_of_getElem? e2)).2) e, hr.apart, hr.fresh, hr.g3⟩
  rw [e', hb] at e; cases e
/-- the state goes on; only the function's own names lie outside what the text's objects may change -/
structure Go (env : Env) (ρ ρ' : R) (s s' : Shared) : Prop where
  ext : ∃ g, ρ' = ρ ++ g ∧ ∀ p ∈ g, s.heap.get? p.1 = none ∧ s.heap.get? p.2 = none
  pres : ∀ b o, s.heap.get? b = some o → (∀ p ∈ ρ, b ≠ p.1 ∧ b ≠ p.2) → b ≠ env.locals → (∀ x, env.cells.lookup x ≠ some b) → s'.heap.get? b = some o
  rest : ∃ h' tk, s' = { s with heap := h', toks := tk }
theorem Go.refl : Go env ρ ρ s s := ⟨⟨[], by simp, fun _ h => nomatch h⟩, fun _ _ e _ _ _ => e, ⟨_, _, rfl⟩⟩
theorem Go.of (st : Step ρ ρ₁ s s₁) : Go env ρ ρ₁ s s₁ := ⟨st.ext, fun b o e h1 _ _ => st.pres b o e h1, st.rest⟩
theorem Go.sub (x : Go env ρ ρ₁ s s₁) : ∀ (k : Nat) p, ρ[k]? = some p → ρ₁[k]? = some p := by
  obtain ⟨g, rfl, _⟩ := x.ext
  intro k p e
  rw [List.getElem?_append_left (List.getElem?_eq_some_iff.mp e).1]; exact e
theorem Go.old (st : Go env ρ ρ₁ s s₁) (x : HR w B ρ₁ h₁ s₁) (y : LR w B ρ₁ env nm xs l s₁) (b : Addr) (o : Obj) (e : s.heap.get? b = some o) : ∃ o', s₁.heap.get? b = some o' := by
  by_cases hb : ∀ p ∈ ρ, b ≠ p.1 ∧ b ≠ p.2
  · by_cases hl : b = env.locals
    · refine hide fun gp gg => ?_; obtain ⟨m, ⟨o, es, ep, ho, _⟩, _⟩ := y.loc; refine gg ?_; clear gg gp
      rw [hl]; exact ⟨o, ho⟩
    · by_cases hc : ∀ x, env.cells.lookup x ≠ some b
      · exact ⟨o, st.pres b o e hb hl hc⟩
      · simp only [Classical.not_forall, Classical.not_not] at hc
        obtain ⟨z, hz⟩ := hc
        exact y.alive z b hz
  · simp only [Classical.not_forall] at hb
    obtain ⟨p, hp, hn⟩ := hb
    obtain ⟨g, e1, _⟩ := st.ext
    have l := x.live (p := p) (by rw [e1]; exact List.mem_append.mpr (.inl hp))
    by_cases h1 : b = p.1
    · subst h1; exact l.1
    · by_cases h2 : b = p.2
      · subst h2; exact l.2
      · exact absurd ⟨h1, h2⟩ hn
theorem Go.trans {ρ₂ : R} {s₂ : Shared} (x : Go env ρ ρ₁ s s₁) (hr : HR w B ρ₁ h₁ s₁) (lr : LR w B ρ₁ env nm xs l s₁) (y : Go env ρ₁ ρ₂ s₁ s₂) : Go env ρ ρ₂ s s₂ := by
  have old := x.old hr lr
  obtain ⟨g, e1, h1⟩ := x.ext
  obtain ⟨g', e2, h2⟩ := y.ext
  refine ⟨⟨g ++ g', by rw [e2, e1, List.append_assoc], fun p hp => ?_⟩, fun b o e hb hl hc => ?_, ?_⟩
  · rcases List.mem_append.mp hp with hp | hp
    · exact h1 p hp
    · constructor
      · cases q : s.heap.get? p.1 with
        | none => rfl
        | some o => obtain ⟨o', e'⟩ := old _ _ q; rw [(h2 p hp).1] at e'; cases e'
      · cases q : s.heap.get? p.2 with
        | none => rfl
        | some o => obtain ⟨o', e'⟩ := old _ _ q; rw [(h2 p hp).2] at e'; cases e'
  · refine y.pres b o (x.pres b o e hb hl hc) (fun p hp => ?_) hl hc
    rw [e1] at hp
    rcases List.mem_append.mp hp with hp | hp
    · exact hb p hp
    · constructor
      · rintro rfl; rw [(h1 p hp).1] at e; cases e
      · rintro rfl; rw [(h1 p hp).2] at e; cases e
  · obtain ⟨a, b, rfl⟩ := x.rest
    obtain ⟨c, d, rfl⟩ := y.rest
    exact ⟨c, d, rfl⟩
theorem Go.same {a : Addr} {h' : Heap} {tk : Nat} (hs : Heap.SameBut a s.heap h') (ha : a = env.locals ∨ ∃ x, env.cells.lookup x = some a) : Go env ρ ρ s { s with heap := h', toks := tk } :=
  ⟨⟨[], by simp, fun _ h => nomatch h⟩, fun b o e _ hl hc => hs.extBut b o (fun e' => by
    subst e'
    rcases ha with ha | ⟨x, hx⟩
    · exact hl ha
    · exact hc x hx) e, ⟨_, _, rfl⟩⟩
theorem Go.step (st : Step ρ₀ ρ s₀ s) (hr : HR w B ρ h s) (ow : Own env s₀) (x : Go env ρ ρ₁ s s₁) : Step ρ₀ ρ₁ s₀ s₁ := by
  have old := fun b o e => hr.old st b o e
  obtain ⟨g, e1, h1⟩ := st.ext
  obtain ⟨g', e2, h2⟩ := x.ext
  refine ⟨⟨g ++ g', by rw [e2, e1, List.append_assoc], fun p hp => ?_⟩, fun b o e hb => ?_, ?_⟩
  · rcases List.mem_append.mp hp with hp | hp
    · exact h1 p hp
    · constructor
      · cases q : s₀.heap.get? p.1 with
        | none => rfl
        | some o => obtain ⟨o', e'⟩ := old _ _ q; rw [(h2 p hp).1] at e'; cases e'
      · cases q : s₀.heap.get? p.2 with
        | none => rfl
        | some o => obtain ⟨o', e'⟩ := old _ _ q; rw [(h2 p hp).2] at e'; cases e'
  · refine x.pres b o (st.pres b o e hb) (fun p hp => ?_) (fun e' => ?_) fun y hy => ?_
    · rw [e1] at hp
      rcases List.mem_append.mp hp with hp | hp
      · exact hb p hp
      · constructor
        · rintro rfl; rw [(h1 p hp).1] at e; cases e
        · rintro rfl; rw [(h1 p hp).2] at e; cases e
    · rw [e', ow.loc] at e; cases e
    · rw [ow.cel y b hy] at e; cases e
  · obtain ⟨a, b, rfl⟩ := st.rest
    obtain ⟨c, d, rfl⟩ := x.rest
    exact ⟨c, d, rfl⟩
/-- x = v, of a local name -/
theorem store_local2 {i : Nat} {y : Str} {v : V} {val : Value} (hr : HR w B ρ h s) (lr : LR w B ρ env nm xs l s) (hi : xs[i]? = some y) (hk : nm.lookup y = some .local) (rv : RV ρ v val) :
    wpAny (model pw w) A (bindName env y val) (fun _ s' => (HR w B ρ h s' ∧ LR w B ρ env nm xs (l.set i (some v)) s' ∧ Go env ρ ρ s s') ∧ ∃ h' tk, s' = { s with heap := h', toks := tk } ∧ Heap.SameBut env.locals s.heap h') no s := by
  obtain ⟨m, hn, hm⟩ := lr.loc
  have ow := lr.own env.locals (.inl rfl)
  have hkind : env.kindOf y = some .local := by unfold Env.kindOf; rw [lr.names]; exact hk
  refine wpAny_bindName (wpAny_storeName_local hkind hn (fun h' hn' hs => ?_) (by rw [lr.kind]; rfl))
  refine ⟨⟨hr.other hs ow.1 ow.2, ?_, Go.same hs (.inl rfl)⟩, h', _, rfl, hs⟩
  refine ⟨lr.kind, lr.names, lr.globals, lr.builtins, by rw [List.length_set]; exact lr.len, lr.nodup, ⟨_, hn', fun j x h1 h2 u h3 => ?_⟩, fun j x h1 h2 => ?_, fun x c hc => ?_, lr.own, lr.celNe, lr.celInj⟩
  · rw [List.getElem?_set] at h3
    by_cases hj : i = j
    · subst hj
      rw [hi] at h1; cases h1
      rw [if_pos rfl] at h3
      split at h3
      · cases h3
        exact ⟨val, by simp, rv⟩
      · cases h3
    · rw [if_neg hj] at h3
      obtain ⟨val', e, r⟩ := hm j x h1 h2 u h3
      have ne : x ≠ y := by
        rintro rfl
        have nd := List.pairwise_iff_getElem.mp lr.nodup
        obtain ⟨a1, b1⟩ := List.getElem?_eq_some_iff.mp hi
        obtain ⟨a2, b2⟩ := List.getElem?_eq_some_iff.mp h1
        rcases Nat.lt_or_gt_of_ne hj with hlt | hlt
        · exact nd i j a1 a2 hlt (b1.trans b2.symm)
        · exact nd j i a2 a1 hlt (b2.trans b1.symm)
      exact ⟨val', by rw [if_neg ne]; exact e, r⟩
  · refine hide fun gp gg => ?_; obtain ⟨c, cv, hc, hcell, hv⟩ := lr.cel j x h1 h2; refine gg ?_; clear gg gp
    refine ⟨c, cv, hc, hcell.sameBut hs (lr.celNe x c hc), fun u hu => hv u ?_⟩
    rw [List.getElem?_set] at hu
    by_cases hj : i = j
    · subst hj
      rw [hi] at h1; cases h1
      rw [hk] at h2; rcases h2 with h2 | h2 <;> cases h2
    · rwa [if_neg hj] at hu
  · obtain ⟨o, ho⟩ := lr.alive x c hc
    exact ⟨o, hs.extBut c o (lr.celNe x c hc) ho⟩
theorem store_local {i : Nat} {y : Str} {v : V} {val : Value} (hr : HR w B ρ h s) (lr : LR w B ρ env nm xs l s) (hi : xs[i]? = some y) (hk : nm.lookup y = some .local) (rv : RV ρ v val) :
    wpAny (model pw w) A (bindName env y val) (fun _ s' => HR w B ρ h s' ∧ LR w B ρ env nm xs (l.set i (some v)) s' ∧ Go env ρ ρ s s') no s :=
  wpAny_mono (store_local2 hr lr hi hk rv) (fun _ _ z => z.1) fun _ _ e => e
/-- x = v, of a name that lies in a cell -/
theorem store_cell {i : Nat} {y : Str} {v : V} {val : Value} (hr : HR w B ρ h s) (lr : LR w B ρ env nm xs l s) (hi : xs[i]? = some y) (hk : nm.lookup y = some .cell) (rv : RV ρ v val) :
    wpAny (model pw w) A (bindName env y val) (fun _ s' => HR w B ρ h s' ∧ LR w B ρ env nm xs (l.set i (some v)) s' ∧ Go env ρ ρ s s') no s := by
  refine hide fun gp gg => ?_; obtain ⟨c, cv, hc, hcell, hv⟩ := lr.cel i y hi (.inl hk); refine gg ?_; clear gg gp
  have ow := lr.own c (.inr ⟨y, hc⟩)
  have hkind : env.kindOf y = some .cell := by unfold Env.kindOf; rw [lr.names]; exact hk
  refine wpAny_bindName (wpAny_storeName_cell lr.kind hkind hc hcell fun h' hc' hs => ?_)
  refine ⟨hr.other (tk := s.toks) hs ow.1 ow.2, ?_, Go.same (tk := s.toks) hs (.inr ⟨y, hc⟩)⟩
  have inj : ∀ (j : Nat) x, xs[j]? = some x → j ≠ i → x ≠ y := fun j x h1 hj e => by
    subst e
    have nd := List.pairwise_iff_getElem.mp lr.nodup
    obtain ⟨a1, b1⟩ := List.getElem?_eq_some_iff.mp hi
    obtain ⟨a2, b2⟩ := List.getElem?_eq_some_iff.mp h1
    rcases Nat.lt_or_gt_of_ne hj with hlt | hlt
    · exact nd j i a2 a1 hlt (b2.trans b1.symm)
    · exact nd i j a1 a2 hlt (b1.trans b2.symm)
  refine ⟨lr.kind, lr.names, lr.globals, lr.builtins, by rw [List.length_set]; exact lr.len, lr.nodup, ?_, fun j x h1 h2 => ?_, fun x c' hc2 => ?_, lr.own, lr.celNe, lr.celInj⟩
  · obtain ⟨m, hn, hm⟩ := lr.loc
    refine ⟨m, hn.sameBut hs (Ne.symm (lr.celNe y c hc)), fun j x h1 h2 u h3 => hm j x h1 h2 u ?_⟩
    rw [List.getElem?_set] at h3
    by_cases hj : i = j
    · subst hj
      rw [hi] at h1; cases h1
      rw [hk] at h2; cases h2
    · rwa [if_neg hj] at h3
  · by_cases hj : i = j
    · subst hj
      rw [hi] at h1; cases h1
      refine ⟨c, some val, hc, hc', fun u hu => ⟨val, rfl, ?_⟩⟩
      rw [List.getElem?_set, if_pos rfl] at hu
      split at hu
      · cases hu; exact rv
      · cases hu
    · refine hide fun gp gg => ?_; obtain ⟨c2, cv2, hc2, hcell2, hv2⟩ := lr.cel j x h1 h2; refine gg ?_; clear gg gp
      have ne : c2 ≠ c := fun e => inj j x h1 (Ne.symm hj) (lr.celInj x y c (e ▸ hc2) hc)
      refine ⟨c2, cv2, hc2, hcell2.sameBut hs ne, fun u hu => hv2 u ?_⟩
      rw [List.getElem?_set, if_neg hj] at hu
      exact hu
  · obtain ⟨o, ho⟩ := lr.alive x c' hc2
    by_cases e : c' = c
    · subst e
      obtain ⟨o', ho', _⟩ := hc'
      exact ⟨o', ho'⟩
    · exact ⟨o, hs.extBut c' o e ho⟩
end
end Mine
end
section
set_option maxRecDepth 100000
namespace Mine
open PySem PySem.W PyProof.Rows PySem.SeqAt
open Sem (wp)
open AutoSeq1 (wpAny_loadPart')
/- ==== enumerate(bytes) ==== -/
set_option maxHeartbeats 2000000 in
theorem enum_new (b : Array UInt8) (t : Tok) :
    Meets (Builtin.«enumerate.__new__» ⟨[.type "enumerate", .bytes b t], []⟩) (fun _ R s =>
      R (.ok (.ret (.ref (s.heap.push { cls := .type "bytes_iterator", data := .fields #[.bytes b t, .int 0 0] }).objs.size)))
        { s with heap := (s.heap.push { cls := .type "bytes_iterator", data := .fields #[.bytes b t, .int 0 0] }).push { cls := .type "enumerate", data := .fields #[.none, .bool false, .ref s.heap.objs.size, rawInt 0, .none, .none] } }) :=
  .of_wp fun prog w A R s h => by
    obtain ⟨hp, g, d, tk, os⟩ := s
    have hsub := sub_enumerate
    wp_walk
    refine wpAny_stack_any fun st => wpAny_pure ?_
    split
    · rename_i c _ _ _ _ _
      cases (c == Value.type "enumerate")
      · wp_walk using KBw.pyIter_bytes
        exact ⟨_, rfl, h⟩
      · wp_walk using KBw.pyIter_bytes
        exact ⟨_, rfl, h⟩
    · wp_walk using KBw.pyIter_bytes
      exact ⟨_, rfl, h⟩
section
variable {w : World} {A : Around} {E : Value → Shared → Prop} {s : Shared}
theorem enum_call {b : Array UInt8} {t : Tok} {Q : Value → Shared → Prop}
    (h : ∀ h', IsEnum h' (s.heap.objs.size + 1) s.heap.objs.size 0 .none → KBw.IsBytesIter h' s.heap.objs.size b t 0 → h'.objs.size = s.heap.objs.size + 2 →
      (∀ b o, s.heap.get? b = some o → h'.get? b = some o) → Q (.ref (s.heap.objs.size + 1)) { s with heap := h' }) :
    wpAny (model pw w) A (call (.type "enumerate") [.bytes b t]) Q E s := by
  refine callType_new F.called_enumerate (by decide) (F.typeCall_enumerate_1 _) (F.newCall_enumerate_1 _) (fun obj => F.args_object_init_2 obj _) F.entry_enumerate_new
    (enum_new b t) ?_
  have hz : (s.heap.push { cls := .type "bytes_iterator", data := .fields #[.bytes b t, .int 0 0] }).objs.size = s.heap.objs.size + 1 := Heap.size_push ..
  show _ ∧ _
  rw [hz]
  have he : IsEnum ((s.heap.push { cls := .type "bytes_iterator", data := .fields #[.bytes b t, .int 0 0] }).push
      { cls := .type "enumerate", data := .fields #[.none, .bool false, .ref s.heap.objs.size, rawInt 0, .none, .none] }) (s.heap.objs.size + 1) s.heap.objs.size 0 .none := by
    have := Heap.get?_push_size (s.heap.push { cls := .type "bytes_iterator", data := .fields #[.bytes b t, .int 0 0] })
      (o := { cls := .type "enumerate", data := .fields #[.none, .bool false, .ref s.heap.objs.size, rawInt 0, .none, .none] }) rfl
    rw [hz] at this; exact this
  exact ⟨⟨_, he, rfl⟩, h _ he ⟨_, Heap.get?_push_of_some _ (Heap.get?_push_size _ rfl), rfl, rfl⟩ (by rw [Heap.size_push, hz]) fun b o y => Heap.get?_push_of_some _ (Heap.get?_push_of_some _ y)⟩
theorem nextOf_bytes {it : Addr} {b : Array UInt8} {t : Tok} {i : Nat} {c : UInt8} {Q : Value → Shared → Prop} (hit : KBw.IsBytesIter s.heap it b t i) (hx : b[i]? = some c)
    (hQ : ∀ h', KBw.IsBytesIter h' it b t (i + 1) → Heap.SameBut it s.heap h' → Q (.int (c.toNat : Int) s.toks) { s with heap := h', toks := s.toks + 1 }) :
    wpAny (model pw w) A (Builtin.SmallTypes.nextOf (.ref it)) Q E s := by
  obtain ⟨o, ho, hc, hd⟩ := id hit
  unfold Builtin.SmallTypes.nextOf
  refine wpAny_bind (wpAny_callSpecial?_slot (name := Str.ofString "__next__") (KBw.iter_typeIs hit) KBw.slot_next
    (wpAny_call_entry KBw.slot_next (KBw.iter_typeIs hit) KBw.entry_next ?_ (KBw.args_next _)))
  show wpAny _ _ (field (.ref it) 0 >>= _) _ _ s
  refine wpAny_bind (wpAny_field ho hd (x := .bytes b t) rfl ?_)
  show wpAny _ _ (if (Value.bytes b t == Value.none) = true then _ else _) _ _ s
  rw [if_neg (show ¬ ((Value.bytes b t == Value.none) = true) from Bool.false_ne_true)]
  show wpAny _ _ (field (.ref it) 1 >>= _) _ _ s
  refine wpAny_bind (wpAny_field ho hd (x := .int i 0) rfl ?_)
  refine wpAny_bind (wpAny_of_eq (a := b) rfl ?_)
  simp only [Int.toNat_natCast, hx]
  refine wpAny_bind (wpAny_setField ho hd (by simp) (wpAny_bind (wpAny_mkInt (wpAny_pure ⟨_, rfl, wpAny_pure (hQ _ ?_ (Heap.SameBut.update ..))⟩))))
  exact ⟨_, Heap.get?_update_self _ ho (Obj.isFreed_of_fields (Obj.data_mapFields hd _)), (Obj.cls_mapFields ..).trans hc, by
    rw [Obj.data_mapFields hd]; simp [rawInt]⟩
theorem nextOf_end {it : Addr} {b : Array UInt8} {t : Tok} {i : Nat} {Q : Value → Shared → Prop} (hh : A.handled = none)
    (hit : KBw.IsBytesIter s.heap it b t i) (hx : b[i]? = none)
    (hE : ∀ h' e, Heap.ExtBut it s.heap h' → (∃ o, h'.get? e = some o ∧ o.cls = .type "StopIteration") → E (.ref e) { s with heap := h' }) :
    wpAny (model pw w) A (Builtin.SmallTypes.nextOf (.ref it)) Q E s := by
  obtain ⟨o, ho, hc, hd⟩ := id hit
  unfold Builtin.SmallTypes.nextOf
  refine wpAny_bind (wpAny_callSpecial?_slot (name := Str.ofString "__next__") (KBw.iter_typeIs hit) KBw.slot_next
    (wpAny_call_entry KBw.slot_next (KBw.iter_typeIs hit) KBw.entry_next ?_ (KBw.args_next _)))
  show wpAny _ _ (field (.ref it) 0 >>= _) _ _ s
  refine wpAny_bind (wpAny_field ho hd (x := .bytes b t) rfl ?_)
  show wpAny _ _ (if (Value.bytes b t == Value.none) = true then _ else _) _ _ s
  rw [if_neg (show ¬ ((Value.bytes b t == Value.none) = true) from Bool.false_ne_true)]
  show wpAny _ _ (field (.ref it) 1 >>= _) _ _ s
  refine wpAny_bind (wpAny_field ho hd (x := .int i 0) rfl ?_)
  refine wpAny_bind (wpAny_of_eq (a := b) rfl ?_)
  simp only [Int.toNat_natCast, hx]
  refine wpAny_bind (wpAny_rule (wpAny_bind (wpAny_setField ho hd (by simp) ?_)))
  show wpAny _ _ (newExc (.type "StopIteration") [] >>= _) _ _ _
  refine wpAny_bind ?_
  simp only [newExc, newTuple]
  refine wpAny_bind (wpAny_newObj_type ?_ (by size_fits))
  refine wpAny_bind (m := firstArgMember _ _) (wpAny_of_eq (a := Value.none) (by first | rfl | (simp only [firstArgMember]; rfl)) ?_)
  refine wpAny_newObj_type ?_ (by size_fits)
  simp only [raiseNew]
  refine wpAny_bind (wpAny_handled ?_)
  first | rw [show A.in1.handled = none from hh] | rw [hh]
  refine wpAny_bind (wpAny_pure (wpAny_throw ?_))
  exact hE _ _ (((Heap.SameBut.update ..).extBut.push _).push _) ⟨_, Heap.get?_push_size _ rfl, rfl⟩
theorem enum_next_item {e it : Addr} {i : Nat} {b : Array UInt8} {t : Tok} {c : UInt8} {old : Value} {Q : Value → Shared → Prop}
    (he : IsEnum s.heap e it i old) (hit : KBw.IsBytesIter s.heap it b t i) (hx : b[i]? = some c) (hne : e ≠ it)
    (hQ : ∀ h', IsEnumOut h' e it ((i : Int) + 1) (.int c.toNat s.toks) s.heap.objs.size → KBw.IsBytesIter h' it b t (i + 1) →
      h'.get? s.heap.objs.size = some { cls := .type "tuple", data := .seq #[.int i (s.toks + 1), .int c.toNat s.toks] } → h'.objs.size = s.heap.objs.size + 1 →
      (∀ b o, b ≠ e → b ≠ it → s.heap.get? b = some o → h'.get? b = some o) → Q (.ref s.heap.objs.size) { s with heap := h', toks := s.toks + 1 + 1 }) :
    wpAny (model pw w) A (Builtin.«enumerate.__next__» ⟨[.ref e], []⟩) (fun fin s' => ∃ v, fin = .done (.ret v) ∧ Q v s') E s := by
  obtain ⟨hp, g, d, tk, os⟩ := s
  show wpAny _ _ (field (.ref e) 2 >>= _) _ _ _
  refine wpAny_bind (wpAny_field he rfl (x := .ref it) rfl ?_)
  refine wpAny_bind (nextOf_bytes hit hx fun h₁ hit₁ hs₁ => ?_)
  replace hs₁ : Heap.SameBut it hp h₁ := hs₁
  have he₁ : IsEnum h₁ e it i old := (hs₁.2 e hne).trans he
  show wpAny _ _ (field (.ref e) 3 >>= _) _ _ ⟨h₁, g, d, tk + 1, os⟩
  refine wpAny_bind (wpAny_field he₁ rfl (x := rawInt i) rfl ?_)
  show wpAny _ _ (field (.ref e) 4 >>= _) _ _ ⟨h₁, g, d, tk + 1, os⟩
  refine wpAny_bind (wpAny_field he₁ rfl (x := .none) rfl ?_)
  show wpAny _ _ (mkInt i >>= _) _ _ ⟨h₁, g, d, tk + 1, os⟩
  refine wpAny_bind (wpAny_mkInt ?_)
  show wpAny _ _ (setField (.ref e) 3 (rawInt ((i : Int) + 1)) >>= _) _ _ ⟨h₁, g, d, tk + 1 + 1, os⟩
  refine wpAny_bind (wpAny_setField_rec he₁ (by simp) fun h₂ he₂ hs₂ => ?_)
  replace hs₂ : Heap.SameBut e h₁ h₂ := hs₂
  replace he₂ : IsEnum h₂ e it ((i : Int) + 1) old := he₂
  show wpAny _ _ (setField (.ref e) 4 .none >>= _) _ _ ⟨h₂, g, d, tk + 1 + 1, os⟩
  refine wpAny_bind (wpAny_setField_rec he₂ (by simp) fun h₃ he₃ hs₃ => ?_)
  replace hs₃ : Heap.SameBut e h₂ h₃ := hs₃
  replace he₃ : IsEnum h₃ e it ((i : Int) + 1) old := he₃
  show wpAny _ _ (newTuple [.int i (tk + 1), .int c.toNat tk] >>= _) _ _ ⟨h₃, g, d, tk + 1 + 1, os⟩
  refine wpAny_bind (wpAny_newTuple ?_)
  have he₄ : IsEnum (h₃.push { cls := .type "tuple", data := .seq #[.int i (tk + 1), .int c.toNat tk] }) e it ((i : Int) + 1) old := Heap.get?_push_of_some _ he₃
  generalize hh₄ : h₃.push { cls := .type "tuple", data := .seq #[.int i (tk + 1), .int c.toNat tk] } = h₄ at he₄
  have hsz : h₃.objs.size = hp.objs.size := by rw [hs₃.1, hs₂.1, hs₁.1]
  have hel : e < hp.objs.size := Heap.lt_size he
  have ht₄ : h₄.get? hp.objs.size = some { cls := .type "tuple", data := .seq #[.int i (tk + 1), .int c.toNat tk] } := by rw [← hh₄, ← hsz]; exact Heap.get?_push_size _ rfl
  have hz₄ : h₄.objs.size = hp.objs.size + 1 := by rw [← hh₄, Heap.size_push, hsz]
  have hk₄ : ∀ b o, b ≠ e → b ≠ it → hp.get? b = some o → h₄.get? b = some o := fun b o hbe hbi hb => by
    rw [← hh₄]; exact Heap.get?_push_of_some _ (hs₃.extBut b o hbe (hs₂.extBut b o hbe (hs₁.extBut b o hbi hb)))
  have step : ∀ {x y : Heap} {j : Nat}, KBw.IsBytesIter x it b t j → Heap.SameBut e x y → KBw.IsBytesIter y it b t j := fun z hs =>
    let ⟨o, ho, r⟩ := z; ⟨o, hs.extBut it o (Ne.symm hne) ho, r⟩
  have hit₄ : KBw.IsBytesIter h₄ it b t (i + 1) := by
    rw [← hh₄]; obtain ⟨o, ho, r⟩ := step (step hit₁ hs₂) hs₃; exact ⟨o, Heap.get?_push_of_some _ ho, r⟩
  show wpAny _ _ (Builtin.SmallTypes.ownedTupleIsFree (.ref e) >>= _) _ _ ⟨h₄, g, d, tk + 1 + 1, os⟩
  rw [hsz]
  refine wpAny_bind ?_
  · unfold Builtin.SmallTypes.ownedTupleIsFree
    refine wpAny_bind (wpAny_field he₄ rfl (x := .none) rfl (wpAny_pure ?_))
    simp only [if_true]
    refine wpAny_bind (wpAny_rule ?_)
    refine wpAny_bind (wpAny_field he₄ rfl (x := old) rfl ?_)
    refine wpAny_bind (wpAny_setField_rec he₄ (by simp) fun h₅ he₅ hs₅ => ?_)
    replace hs₅ : Heap.SameBut e h₄ h₅ := hs₅
    replace he₅ : IsEnum h₅ e it ((i : Int) + 1) (.int c.toNat tk) := he₅
    show wpAny _ _ (Builtin.SmallTypes.ownedTupleHandOut (.ref e) (.ref hp.objs.size) >>= _) _ _ ⟨h₅, g, d, tk + 1 + 1, os⟩
    refine wpAny_bind ?_
    · unfold Builtin.SmallTypes.ownedTupleHandOut
      refine wpAny_bind (wpAny_setField_rec he₅ (by simp) fun h₆ he₆ hs₆ => ?_)
      replace hs₆ : Heap.SameBut e h₅ h₆ := hs₆
      replace he₆ : IsEnumOut h₆ e it ((i : Int) + 1) (.int c.toNat tk) hp.objs.size := he₆
      refine wpAny_setField_rec he₆ (by simp) fun h₇ he₇ hs₇ => ?_
      replace hs₇ : Heap.SameBut e h₆ h₇ := hs₇
      replace he₇ : IsEnumOut h₇ e it ((i : Int) + 1) (.int c.toNat tk) hp.objs.size := he₇
      refine wpAny_bind (wpAny_letGo (wpAny_pure ⟨_, rfl, hQ h₇ he₇ ?_ ?_ ?_ ?_⟩))
      · exact step (step (step hit₄ hs₅) hs₆) hs₇
      · exact hs₇.extBut _ _ (Nat.ne_of_gt hel) (hs₆.extBut _ _ (Nat.ne_of_gt hel) (hs₅.extBut _ _ (Nat.ne_of_gt hel) ht₄))
      · rw [hs₇.1, hs₆.1, hs₅.1, hz₄]
      · exact fun b o hbe hbi hb => hs₇.extBut b o hbe (hs₆.extBut b o hbe (hs₅.extBut b o hbe (hk₄ b o hbe hbi hb)))
theorem enum_pyNext {e it : Addr} {i : Nat} {b : Array UInt8} {t : Tok} {c : UInt8} {old : Value} {Q : Option Value → Shared → Prop}
    (he : IsEnum s.heap e it i old) (hit : KBw.IsBytesIter s.heap it b t i) (hx : b[i]? = some c) (hne : e ≠ it)
    (hQ : ∀ h', IsEnumOut h' e it ((i : Int) + 1) (.int c.toNat s.toks) s.heap.objs.size → KBw.IsBytesIter h' it b t (i + 1) →
      h'.get? s.heap.objs.size = some { cls := .type "tuple", data := .seq #[.int i (s.toks + 1), .int c.toNat s.toks] } → h'.objs.size = s.heap.objs.size + 1 →
      (∀ b o, b ≠ e → b ≠ it → s.heap.get? b = some o → h'.get? b = some o) → Q (some (.ref s.heap.objs.size)) { s with heap := h', toks := s.toks + 1 + 1 }) :
    wpAny (model pw w) A (pyNext (.ref e)) Q E s := by
  have hT : s.TypeIs (.ref e) "enumerate" := ⟨_, he, rfl⟩
  unfold pyNext
  exact wpAny_bind (wpAny_attempt (wpAny_callSpecial?_slot (name := Str.ofString "__next__") hT F.slot_enumerate_next
    (wpAny_call_entry F.slot_enumerate_next hT F.entry_enumerate_next
      (enum_next_item he hit hx hne fun h' a b c d k => wpAny_pure (hQ h' a b c d k)) (F.args_enumerate_next_1 _))))
theorem enum_end {e it : Addr} {i : Nat} {b : Array UInt8} {t : Tok} {old : Value} {Q : Option Value → Shared → Prop} (hh : A.handled = none)
    (he : IsEnum s.heap e it i old) (hit : KBw.IsBytesIter s.heap it b t i) (hx : b[i]? = none)
    (hQ : ∀ h', Heap.ExtBut it s.heap h' → Q none { s with heap := h' }) : wpAny (model pw w) A (pyNext (.ref e)) Q E s := by
  have hT : s.TypeIs (.ref e) "enumerate" := ⟨_, he, rfl⟩
  unfold pyNext
  refine wpAny_bind (wpAny_attempt (wpAny_callSpecial?_slot (name := Str.ofString "__next__") hT F.slot_enumerate_next
    (wpAny_call_entry F.slot_enumerate_next hT F.entry_enumerate_next ?_ (F.args_enumerate_next_1 _))))
  show wpAny _ _ (field (.ref e) 2 >>= _) _ _ _
  refine wpAny_bind (wpAny_field he rfl (x := .ref it) rfl ?_)
  refine wpAny_bind (nextOf_end hh hit hx fun h' x he' hx' => ?_)
  obtain ⟨o, ho, hc⟩ := hx'
  refine wpAny_bind (wpAny_isInstance (T := "StopIteration") (b := true) ⟨o, ho, hc⟩ isSubtype_stop ?_)
  exact wpAny_pure (hQ _ he')
end
end Mine
end
section
set_option maxRecDepth 100000
namespace Mine
open PySem PySem.W PyProof.Rows PySem.SeqAt
/- ==== the objects that a turn has made are forgotten ==== -/
section
variable {w : World} {B : Heap} {ρ g : R} {h gh : H} {s s₀ : Shared}
theorem RV.drop {x : V} {v v₀ : Value} (r : RV (ρ ++ g) x v) (r₀ : RV ρ x v₀) : RV ρ x v := by
  cases x <;> first | exact r | skip
  obtain ⟨p, hp, rfl⟩ := r
  obtain ⟨p₀, hp₀, rfl⟩ := r₀
  rw [List.getElem?_append_left (List.getElem?_eq_some_iff.mp hp₀).1, hp₀] at hp
  cases hp
  exact ⟨_, hp₀, rfl⟩
theorem RVs.drop : ∀ {xs : List V} {vs vs₀ : List Value}, RVs (ρ ++ g) xs vs → RVs ρ xs vs₀ → RVs ρ xs vs
  | [], [], [], _, _ => trivial
  | _ :: _, _ :: _, _ :: _, r, r₀ => ⟨r.1.drop r₀.1, RVs.drop r.2 r₀.2⟩
  | [], _ :: _, _, r, _ => r.elim
  | _ :: _, [], _, r, _ => r.elim
  | [], [], _ :: _, _, r => r.elim
  | _ :: _, _ :: _, [], _, r => r.elim
theorem REs.drop : ∀ {xs : List (N × V)} {vs vs₀ : List DictEntry}, REs w (ρ ++ g) xs vs → REs w ρ xs vs₀ → REs w ρ xs vs
  | [], [], [], _, _ => trivial
  | (_, _) :: _, _ :: _, _ :: _, r, r₀ => ⟨⟨r.1.1, r.1.2.1, r.1.2.2.drop r₀.1.2.2⟩, REs.drop r.2 r₀.2⟩
  | [], _ :: _, _, r, _ => r.elim
  | _ :: _, [], _, r, _ => r.elim
  | [], [], _ :: _, _, r => r.elim
  | _ :: _, _ :: _, [], _, r => r.elim
theorem RDs.drop : ∀ {xs : List (N × V)} {vs vs₀ : List (Str × Value)}, RDs (ρ ++ g) xs vs → RDs ρ xs vs₀ → RDs ρ xs vs
  | [], [], [], _, _ => trivial
  | (_, _) :: _, _ :: _, _ :: _, r, r₀ => ⟨⟨r.1.1, r.1.2.drop r₀.1.2⟩, RDs.drop r.2 r₀.2⟩
  | [], _ :: _, _, r, _ => r.elim
  | _ :: _, [], _, r, _ => r.elim
  | [], [], _ :: _, _, r => r.elim
  | _ :: _, _ :: _, [], _, r => r.elim
theorem RO.drop {p : Addr × Addr} {o : O} {hh hh₀ : Heap} (r : RO w (ρ ++ g) hh p o) (r₀ : RO w ρ hh₀ p o) : RO w ρ hh p o := by
  cases o with
  | list l => obtain ⟨z, a, n, e, q⟩ := r; obtain ⟨_, _, _, _, q₀⟩ := r₀; exact ⟨z, a, n, e, q.drop q₀⟩
  | tup l => obtain ⟨z, a, n, e, q⟩ := r; obtain ⟨_, _, _, _, q₀⟩ := r₀; exact ⟨z, a, n, e, q.drop q₀⟩
  | dict kv => obtain ⟨z, a, n, e, i, q⟩ := r; obtain ⟨_, _, _, _, _, q₀⟩ := r₀; exact ⟨z, a, n, e, i, q.drop q₀⟩
  | inst c fs => obtain ⟨a, n, e, e2, q⟩ := r; obtain ⟨_, _, _, _, q₀⟩ := r₀; exact ⟨a, n, e, e2, q.drop q₀⟩
  | barr b => exact r
  | ro o l => exact r
theorem HR.drop (x : HR w B (ρ ++ g) (h ++ gh) s) (x₀ : HR w B ρ h s₀) : HR w B ρ h s := by
  refine ⟨x₀.len, x.base, fun k o p e1 e2 => ?_, x₀.apart, x₀.fresh, x.g3⟩
  have e1' : (h ++ gh)[k]? = some o := by rw [List.getElem?_append_left (List.getElem?_eq_some_iff.mp e1).1]; exact e1
  have e2' : (ρ ++ g)[k]? = some p := by rw [List.getElem?_append_left (List.getElem?_eq_some_iff.mp e2).1]; exact e2
  exact (x.objs k o p e1' e2').drop (x₀.objs k o p e1 e2)
theorem RV.plain {x : V} {v : Value} {ρ' : R} (r : RV ρ' x v) (h : plainV x = true) : RV ρ x v := by
  cases x <;> first | exact r | cases h
end
/- ==== the names that a comprehension takes from around ==== -/
noncomputable def closeOf (env : Env) : List (Str × NameKind) → List (Str × Addr) → List (Str × Addr)
  | [], cs => cs
  | (n, k) :: r, cs => closeOf env r (if k == .free then (n, (env.cells.lookup n).getD 0) :: cs else cs)
theorem closeOf_eq {env : Env} : ∀ (names : List (Str × NameKind)) (cs : List (Str × Addr)), (∀ n, (n, NameKind.free) ∈ names → (env.cells.lookup n).isSome = true) →
    (forIn names cs fun x cs => (if (x.2 == NameKind.free) = true then (do let a ← cellOf env x.1; pure (ForInStep.yield ((x.1, a) :: cs))) else pure (ForInStep.yield cs) : Sem (ForInStep (List (Str × Addr))))) = pure (closeOf env names cs)
  | [], cs, _ => by rw [List.forIn_nil]; rfl
  | (n, k) :: r, cs, h => by
    rw [List.forIn_cons]
    unfold closeOf
    cases hk : k == NameKind.free with
    | true =>
      have ek : k = .free := by simpa using hk
      subst ek
      obtain ⟨c, hc⟩ := Option.isSome_iff_exists.mp (h n List.mem_cons_self)
      have e0 : cellOf env n = pure c := by unfold cellOf; rw [hc]
      simp only [if_true, e0, pure_bind, hc, Option.getD_some]
      exact closeOf_eq r _ fun m hm => h m (List.mem_cons_of_mem _ hm)
    | false =>
      simp only [Bool.false_eq_true, if_false, pure_bind]
      exact closeOf_eq r _ fun m hm => h m (List.mem_cons_of_mem _ hm)
theorem closure_eq {env : Env} {sc : Scope} (h : ∀ n, (n, NameKind.free) ∈ sc.names → (env.cells.lookup n).isSome = true) : closureFor sc env = pure (closeOf env sc.names []) := by
  have := closeOf_eq (env := env) sc.names [] h
  unfold closureFor
  rw [← this]
  simp only [bind_pure]
theorem closeOf_sound {env : Env} : ∀ (names : List (Str × NameKind)) (cs : List (Str × Addr)), (∀ n, (n, NameKind.free) ∈ names → (env.cells.lookup n).isSome = true) → (∀ y c, cs.lookup y = some c → env.cells.lookup y = some c) →
    ∀ y c, (closeOf env names cs).lookup y = some c → env.cells.lookup y = some c
  | [], cs, _, h, y, c, e => h y c e
  | (n, k) :: r, cs, h0, h, y, c, e => by
    unfold closeOf at e
    refine closeOf_sound r _ (fun m hm => h0 m (List.mem_cons_of_mem _ hm)) (fun y' c' e' => ?_) y c e
    split at e'
    · rename_i hk
      have ek : k = .free := by simpa using hk
      subst ek
      obtain ⟨c0, hc0⟩ := Option.isSome_iff_exists.mp (h0 n List.mem_cons_self)
      rw [List.lookup_cons] at e'
      split at e'
      · rename_i hb
        rw [beq_iff_eq.mp hb]
        cases e'
        rw [hc0]; rfl
      · exact h y' c' e'
    · exact h y' c' e'
theorem closeOf_some {env : Env} {y : Str} : ∀ (names : List (Str × NameKind)) (cs : List (Str × Addr)), ((cs.lookup y).isSome = true ∨ (y, NameKind.free) ∈ names) → ((closeOf env names cs).lookup y).isSome = true
  | [], cs, h => by
    rcases h with h | h
    · exact h
    · cases h
  | (n, k) :: r, cs, h => by
    unfold closeOf
    refine closeOf_some r _ ?_
    rcases h with h | h
    · left
      split
      · rw [List.lookup_cons]; split
        · rfl
        · exact h
      · exact h
    · rcases List.mem_cons.mp h with e | h
      · cases e
        left
        rw [if_pos (by rfl), List.lookup_cons]
        simp
      · exact .inr h
/- ==== a comprehension, in the calculus ==== -/
section
variable {M : Model} {A : Around} {s : Shared} {env : Env}
noncomputable def compPostX (M : Model) (A : Around) (use : Option (Value → Sem Unit)) (Q : Value → Shared → Prop) (acc : Value) (C : Addr) (r : Result) (s' : Shared) : Prop :=
  (∃ f, r = .ok f) ∧ match use with
  | none => ∃ m, s'.heap.Ns C m ∧ ∀ h', Heap.SameBut C s'.heap h' → Q acc { s' with heap := h' }
  | some u => wX M A (u acc) (fun _ s'' => ∃ m, s''.heap.Ns C m ∧ ∀ h', Heap.SameBut C s''.heap h' → Q .none { s'' with heap := h' }) s'
theorem comprehension_X {e : Expr} {scope : Scope} {pos : Pos} {newAcc first : Sem Value} {g : Comprehension} {gs : List Comprehension} {cl : List (Str × Addr)} {use : Option (Value → Sem Unit)}
    {Q : Value → Shared → Prop}
    (hcl : clausesOf e = g :: gs) (hs : ∀ x, foldedSetIterable g.iter env x = pure x) (hclos : closureFor scope env = pure cl)
    (hkind : scope.kind = .function) (hnames : ∀ x ∈ scope.names, x.2 = .local → scope.names.lookup x.1 = some .local)
    (h : wX M A first (fun x s₁ => wpAny M A (pyIter x) (fun it s₂ => wpAny M A newAcc (fun acc s₃ =>
      wpAny M A (newFunctionEnv scope env.globals cl [] env.qual none .none (some env)) (fun cenv s₄ =>
        cX M A (.compStart e 0 it acc { cenv with scope := relabel scope env }) (compPostX M A use Q acc cenv.locals) s₄) no s₃) no s₂) no s₁) s) :
    wX M A (comprehension e scope env pos newAcc false first use) Q s := by
  unfold comprehension
  rw [hclos, hcl]
  refine .bind (h.mono fun x s₁ h₁ => .stand ?_)
  refine .bind (.of_eq (hs x) ?_)
  refine .bind (.holding (.lift (wpAny_mono h₁ (fun it s₂ h₂ => ?_) fun _ _ e => e)))
  have std : ∀ {c : Prop} [Decidable c] {p : Pos} {k : PUnit → Sem Value}, wX M A (k ()) Q s₂ → wX M A (if c then (standAt p >>= k) else k ()) Q s₂ := fun hk => by
    split
    · exact .stand hk
    · exact hk
  refine std ?_
  refine .bind (.lift (wpAny_mono h₂ (fun acc s₃ h₃ => ?_) fun _ _ e => e))
  refine .bind (.pure (.bind (.lift (wpAny_mono h₃ (fun cenv s₄ h₄ => ?_) fun _ _ e => e))))
  dsimp only
  have hv : ∀ x ∈ (scope.names.filter fun x => (x.2 == .local || x.2 == .cell) && x.1 != (".0" : Str)).reverse, x.2 = .local →
      Env.kindOf { cenv with scope := relabel scope env } x.1 = some .local := fun x hx hl => lookup_relabel_local (hnames x (List.mem_filter.mp (List.mem_reverse.mp hx)).1 hl)
  have hv' : ∀ x ∈ (scope.names.filter fun x => (x.2 == .local || x.2 == .cell) && x.1 != (".0" : Str)).reverse.drop 1 ++ (scope.names.filter fun x => (x.2 == .local || x.2 == .cell) && x.1 != (".0" : Str)).reverse.take 1,
      x.2 = .local → Env.kindOf { cenv with scope := relabel scope env } x.1 = some .local := fun x hx hl => by
    rcases List.mem_append.mp hx with h1 | h1
    · exact hv x (List.mem_of_mem_drop h1) hl
    · exact hv x (List.mem_of_mem_take h1) hl
  refine .holding (.bind (.attempt (.holding (.run (h₄.mono fun r s' hr => ?_)))))
  obtain ⟨⟨f, rfl⟩, hr⟩ := hr
  refine ⟨f, rfl, ?_⟩
  cases use with
  | none =>
    obtain ⟨m, hn, hr⟩ := hr
    exact .bind (.holding (.lift (wpAny_comp_letGo (cenv := { cenv with scope := relabel scope env }) hkind _ s' m hv hn fun h' m' _ hs' => .pure (hr h' hs'))))
  | some u =>
    refine .bind (.lift (wpAny_rule ?_))
    refine .bind (.holding (hr.mono fun _ s'' hr' => ?_))
    obtain ⟨m, hn, hr'⟩ := hr'
    exact .bind (.lift (wpAny_comp_letGo (cenv := { cenv with scope := relabel scope env }) hkind _ s'' m hv' hn fun h' m' _ hs' => .pure (hr' h' hs')))
end
section
variable {w : World} {A : Around} {s : Shared} {R : Result → Shared → Prop}
theorem cX_compStart {elt target iter : Expr} {ifs : List Expr} {rest : List Comprehension} {scope : Scope} {pos : Pos} {it acc : Value} {env : Env}
    (h0 : cX (model pw w) A (.compLoop (.ListComp elt (⟨target, iter, ifs, 0⟩ :: rest) scope pos) 0 it acc env) R s)
    (h : wpAny (model pw w) A (pyIter it) (fun it' s' => cX (model pw w) A (.compLoop (.ListComp elt (⟨target, iter, ifs, 0⟩ :: rest) scope pos) 0 it' acc env) R s') no s) :
    cX (model pw w) A (.compStart (.ListComp elt (⟨target, iter, ifs, 0⟩ :: rest) scope pos) 0 it acc env) R s := by
  refine .tree rfl ?_
  rw [Around.under_of_weight rfl]
  show wX _ A ((compStart (.ListComp elt (⟨target, iter, ifs, 0⟩ :: rest) scope pos) 0 it acc env).onRaise (fun x => do noteFrame x env; standAt theWindowsPlace)) _ s
  refine .onRaise (.lift ?_)
  unfold compStart
  show wpAny _ _ (ask >>= _) _ _ s
  refine wpAny_bind (wpAny_askSetting (wpAny_ite ?_))
  split
  · first
      | exact wpAny_bind (wpAny_pure (wpAny_pure (And.intro rfl h0)))
      | exact wpAny_pure (And.intro rfl h0)
  · first
      | exact wpAny_bind (wpAny_rule (wpAny_bind (wpAny_standAt (wpAny_bind (wpAny_mono h (fun it' s' h' => wpAny_pure (And.intro rfl h')) fun _ _ x => x)))))
      | (refine wpAny_bind (wpAny_rule ?_); show wpAny _ _ (standAt iter.pos >>= _) _ _ s; exact wpAny_bind (wpAny_standAt (wpAny_bind (wpAny_mono h (fun it' s' h' => wpAny_pure (And.intro rfl h')) fun _ _ x => x))))
end
end Mine
end
section
set_option maxRecDepth 100000
namespace Mine
open PySem PySem.W PyProof.Rows PySem.SeqAt
/-- what feeds the turns of a comprehension -/
structure Feed (w : World) (B : Heap) (A : Around) (target : Expr) (ts : List Str) (it : Value) (ρ : R) (h : H) (n : Nat) (vals : Nat → List V) (own : Addr → Prop) (St : Nat → Heap → Prop) : Prop where
  frame : ∀ i (x x' : Heap), St i x → (∀ b o, own b → x.get? b = some o → x'.get? b = some o) → St i x'
  item : ∀ i (l tl : L) s cenv nm' xs', i < n → St i s.heap → HR w B ρ h s → LR w B ρ cenv nm' xs' (l ++ tl) s → l.length = ts.length → (∃ r, xs' = ts ++ r) → (∀ t ∈ ts, nm'.lookup t = some .local) → ¬ own cenv.locals →
    (∀ b, own b → B.get? b = none ∧ (∀ p ∈ ρ, b ≠ p.1 ∧ b ≠ p.2) ∧ ∀ x, cenv.cells.lookup x ≠ some b) →
    wpAny (model pw w) A (pyNext it) (fun r s' => ∃ v, r = some v ∧ wpAny (model pw w) A (letOwnedTupleGo target it v) (fun _ s1 => wpAny (model pw w) A (assign target cenv v)
      (fun _ s'' => HR w B ρ h s'' ∧ LR w B ρ cenv nm' xs' ((vals i).map some ++ tl) s'' ∧ St (i + 1) s''.heap ∧ (∀ b o, b ≠ cenv.locals → ¬ own b → s.heap.get? b = some o → s''.heap.get? b = some o) ∧
        ∃ h' tk, s'' = { s with heap := h', toks := tk }) no s1) no s') no s
  done : ∀ s, St n s.heap → HR w B ρ h s → wpAny (model pw w) A (pyNext it) (fun r s' => r = none ∧ (∀ b o, ¬ own b → s.heap.get? b = some o → s'.heap.get? b = some o) ∧ ∃ h' tk, s' = { s with heap := h', toks := tk }) no s
  self : ∀ i s (Q : Value → Shared → Prop), St i s.heap → Q it s → wpAny (model pw w) A (pyIter it) Q no s
section
variable {w : World} {B : Heap} {A : Around} {ρ ρ₁ ρ₂ ρ₀ : R} {h h₁ : H} {s s₁ s₂ s₀ : Shared} {env cenv : Env} {nm nm' : List (Str × NameKind)} {xs xs' : List Str} {l l₁ tl : L} {n : Nat}
theorem HR.otherE (hr : HR w B ρ h s) {a : Addr} {h' : Heap} {tk : Nat} (hs : Heap.ExtBut a s.heap h') (hb : B.get? a = none) (hp : ∀ p ∈ ρ, a ≠ p.1 ∧ a ≠ p.2) : HR w B ρ h { s with heap := h', toks := tk } := by
  refine ⟨hr.len, fun b o e => hs b o (fun e' => ?_) (hr.base b o e), fun k o p e1 e2 => (hr.objs k o p e1 e2).mono (fun _ _ e => e) (fun x e => hs _ _ (Ne.symm (hp p (List.mem_of_getElem? e2)).1) e) fun x e => hs _ _ (Ne.symm (hp p (List.mem_of_getElem? e2)).2) e, hr.apart, hr.fresh, hr.g3⟩
  rw [e', hb] at e; cases e
/-- some places that are none of the text's objects are changed -/
theorem HR.others (hr : HR w B ρ h s) {own : Addr → Prop} {h' : Heap} {tk : Nat} (hs : ∀ b o, ¬ own b → s.heap.get? b = some o → h'.get? b = some o) (hb : ∀ b, own b → B.get? b = none ∧ ∀ p ∈ ρ, b ≠ p.1 ∧ b ≠ p.2) : HR w B ρ h { s with heap := h', toks := tk } := by
  refine ⟨hr.len, fun b o e => hs b o (fun e' => ?_) (hr.base b o e), fun k o p e1 e2 => (hr.objs k o p e1 e2).mono (fun _ _ e => e) (fun x e => hs _ _ (fun e' => ((hb _ e').2 p (List.mem_of_getElem? e2)).1 rfl) e) fun x e => hs _ _ (fun e' => ((hb _ e').2 p (List.mem_of_getElem? e2)).2 rfl) e, hr.apart, hr.fresh, hr.g3⟩
  rw [(hb b e').1] at e; cases e
/-- the places of the own names stand as they stood -/
theorem LR.keep (x : LR w B ρ env nm xs l s) (hk : ∀ a o, (a = env.locals ∨ ∃ y, env.cells.lookup y = some a) → s.heap.get? a = some o → s₁.heap.get? a = some o) : LR w B ρ env nm xs l s₁ := by
  refine ⟨x.kind, x.names, x.globals, x.builtins, x.len, x.nodup, ?_, ?_, ?_, x.own, x.celNe, x.celInj⟩
  · refine hide fun gp gg => ?_; obtain ⟨m, ⟨o, es, ep, ho, hd⟩, hm⟩ := x.loc; refine gg ?_; clear gg gp
    exact ⟨m, ⟨o, es, ep, hk _ _ (.inl rfl) ho, hd⟩, hm⟩
  · intro i y h1 h2
    refine hide fun gp gg => ?_; obtain ⟨c, cv, h3, ⟨o, ho, hd⟩, h4⟩ := x.cel i y h1 h2; refine gg ?_; clear gg gp
    exact ⟨c, cv, h3, ⟨o, hk _ _ (.inr ⟨y, h3⟩) ho, hd⟩, h4⟩
  · intro y c hc
    obtain ⟨o, ho⟩ := x.alive y c hc
    exact ⟨o, hk _ _ (.inr ⟨y, hc⟩) ho⟩
structure CI (w : World) (B : Heap) (ρ : R) (h : H) (cenv : Env) (nm' : List (Str × NameKind)) (xs' : List Str) (l : L) (D : Addr) (ys : Array Value) (St : Nat → Heap → Prop) (i : Nat) (s₁ s : Shared) : Prop where
  hr : HR w B ρ h s
  lr : LR w B ρ cenv nm' xs' l s
  acc : s.heap.PlainList D ys
  st : St i s.heap
  pres : Pres ρ s₁ s
  rest : ∃ h' tk, s = { s₁ with heap := h', toks := tk }
/-- which places are the comprehension's own -/
structure Zone (B : Heap) (ρ : R) (cenv : Env) (D : Addr) (own : Addr → Prop) (s₁ : Shared) : Prop where
  accR : ∀ p ∈ ρ, D ≠ p.1 ∧ D ≠ p.2
  accB : B.get? D = none
  accC : D ≠ cenv.locals
  accL : ∀ x, cenv.cells.lookup x ≠ some D
  accO : ¬ own D
  accN : s₁.heap.get? D = none
  ownC : ¬ own cenv.locals
  ownL : ∀ b, own b → B.get? b = none ∧ (∀ p ∈ ρ, b ≠ p.1 ∧ b ≠ p.2) ∧ ∀ x, cenv.cells.lookup x ≠ some b
  ownN : ∀ b, own b → s₁.heap.get? b = none
  locN : s₁.heap.get? cenv.locals = none
variable {D : Addr} {ys : Array Value} {St : Nat → Heap → Prop} {own : Addr → Prop} {i : Nat}
theorem CI.move {ρ' : R} (c : CI w B ρ h cenv nm' xs' l D ys St i s₁ s) (z : Zone B ρ cenv D own s₁) (fr : ∀ i (x x' : Heap), St i x → (∀ b o, own b → x.get? b = some o → x'.get? b = some o) → St i x')
    (hr : HR w B ρ h s₂) (st : Step ρ ρ' s s₂) : CI w B ρ h cenv nm' xs' l D ys St i s₁ s₂ := by
  refine ⟨hr, c.lr.keep fun a o ha e => st.pres a o e (c.lr.own a ha).2, ?_, fr _ _ _ c.st fun b o hb e => st.pres b o e (z.ownL b hb).2.1, fun b o e hb => st.pres b o (c.pres b o e hb) hb, ?_⟩
  · obtain ⟨k, e⟩ := c.acc
    exact ⟨k, st.pres _ _ e z.accR⟩
  · obtain ⟨a1, b1, rfl⟩ := c.rest
    obtain ⟨a2, b2, rfl⟩ := st.rest
    exact ⟨_, _, rfl⟩
theorem range_succ_filter {p : Nat → Bool} {f : Nat → V} (i : Nat) : ((List.range (i + 1)).filter p).map f = ((List.range i).filter p).map f ++ (if p i then [f i] else []) := by
  rw [List.range_succ, List.filter_append, List.map_append]
  cases hp : p i <;> simp [hp]
theorem comp_loop {target : Expr} {ts : List Str} {it : Value} {vals : Nat → List V} {elt' iter : Expr} {ifs : List Expr} {sc : Scope} {pos : Pos} {p : Nat → Bool} {f : Nat → V}
    (F : Feed w B A target ts it ρ h n vals own St) (hn : n ≤ 1000) (z : Zone B ρ cenv D own s₁) (hlen : ∀ i, (vals i).length = ts.length) (hts : ∀ t ∈ ts, nm'.lookup t = some .local) (hxs : ∃ r, xs' = ts ++ r)
    (tests : ∀ i s, i < n → HR w B ρ h s → LR w B ρ cenv nm' xs' ((vals i).map some ++ tl) s →
      wX (model pw w) A (forIn ifs true fun c r => if r = true then do let ok ← isTrue c cenv (eval c cenv); pure (ForInStep.yield ok) else pure (ForInStep.yield r)) (fun ok s' => ok = p i ∧ ∃ ρ', HR w B ρ h s' ∧ Step ρ ρ' s s') s)
    (elts : ∀ i s, i < n → p i = true → HR w B ρ h s → LR w B ρ cenv nm' xs' ((vals i).map some ++ tl) s → wX (model pw w) A (eval elt' cenv) (fun y s' => RV ρ (f i) y ∧ ∃ ρ', HR w B ρ h s' ∧ Step ρ ρ' s s') s) :
    ∀ (k i : Nat) (s : Shared) (l : L) (ys : Array Value), n - i = k → i ≤ n → l.length = ts.length → CI w B ρ h cenv nm' xs' (l ++ tl) D ys St i s₁ s → RVs ρ (((List.range i).filter p).map f) ys.toList →
      cX (model pw w) A (.compLoop (.ListComp elt' [⟨target, iter, ifs, 0⟩] sc pos) 0 it (.ref D) cenv)
        (fun r s' => (∃ f, r = .ok f) ∧ HR w B ρ h s' ∧ (∃ m, s'.heap.Ns cenv.locals m) ∧ (∃ ys, s'.heap.PlainList D ys ∧ RVs ρ (((List.range n).filter p).map f) ys.toList) ∧ Pres ρ s₁ s' ∧ ∃ h' tk, s' = { s₁ with heap := h', toks := tk }) s := by
  intro k
  induction k with
  | zero =>
    intro i s l ys hk hi hl c rv
    have ei : i = n := by omega
    subst ei
    refine .tree rfl ?_
    rw [Around.under_of_weight rfl]
    show wX _ A ((compTurn (.ListComp elt' [⟨target, iter, ifs, 0⟩] sc pos) 0 it (.ref D) cenv).onRaise _) _ _
    refine .onRaise ?_
    rw [compTurn_list]
    refine .stand (.bind (.lift (wpAny_mono (F.done s c.st c.hr) (fun r s' yy0 => ?_) fun _ _ e => e)))
    obtain ⟨er, hk, h', tk, es⟩ := yy0
    subst er es
    refine .pure ⟨⟨_, rfl⟩, c.hr.others hk fun b hb => ⟨(z.ownL b hb).1, (z.ownL b hb).2.1⟩, ?_, ⟨ys, ?_, rv⟩, fun b o e hb => hk b o (fun e' => ?_) (c.pres b o e hb), ?_⟩
    · refine hide fun gp gg => ?_; obtain ⟨m, ⟨o, es, ep, ho, r⟩, _⟩ := c.lr.loc; refine gg ?_; clear gg gp
      exact ⟨m, o, es, ep, hk _ _ z.ownC ho, r⟩
    · obtain ⟨m, e⟩ := c.acc
      exact ⟨m, hk _ _ z.accO e⟩
    · rw [z.ownN b e'] at e; cases e
    · obtain ⟨a1, b1, e1⟩ := c.rest
      rw [e1]; exact ⟨_, _, rfl⟩
  | succ k ih =>
    intro i s l ys hk hi hl c rv
    have hin : i < n := by omega
    refine .tree rfl ?_
    rw [Around.under_of_weight rfl]
    show wX _ A ((compTurn (.ListComp elt' [⟨target, iter, ifs, 0⟩] sc pos) 0 it (.ref D) cenv).onRaise _) _ _
    refine .onRaise ?_
    rw [compTurn_list]
    refine .stand (.bind (.lift (wpAny_mono (F.item i l tl s cenv nm' xs' hin c.st c.hr c.lr hl hxs hts z.ownC z.ownL) (fun r s' yy1 => ?_) fun _ _ e => e)))
    obtain ⟨v, er, hh⟩ := yy1
    subst er
    dsimp only
    refine .bind (.lift (wpAny_mono hh (fun _ s2 hh2 => ?_) fun _ _ e => e))
    refine .bind (.lift (wpAny_mono hh2 (fun _ s3 yy2 => ?_) fun _ _ e => e))
    obtain ⟨hr3, lr3, st3, keep3, rest3⟩ := yy2
    have c3 : CI w B ρ h cenv nm' xs' ((vals i).map some ++ tl) D ys St (i + 1) s₁ s3 := by
      refine ⟨hr3, lr3, ?_, st3, fun b o e hb => keep3 b o (fun e' => ?_) (fun e' => ?_) (c.pres b o e hb), ?_⟩
      · obtain ⟨m, e⟩ := c.acc
        exact ⟨m, keep3 _ _ z.accC z.accO e⟩
      · rw [e', z.locN] at e; cases e
      · rw [z.ownN b e'] at e; cases e
      · obtain ⟨h', tk, es⟩ := rest3
        obtain ⟨a1, b1, e1⟩ := c.rest
        rw [es, e1]; exact ⟨_, _, rfl⟩
    refine .bind ((tests i s3 hin hr3 lr3).mono fun ok s4 yy3 => ?_)
    obtain ⟨eok, ρ4, hr4, st4⟩ := yy3
    have c4 := c3.move z F.frame hr4 st4
    have hl' : ((vals i).map some).length = ts.length := by rw [List.length_map]; exact hlen i
    cases ok with
    | false =>
      refine .pure ⟨rfl, ih (i + 1) s4 _ ys (by omega) hin hl' c4 ?_⟩
      rw [range_succ_filter, ← eok]
      simpa using rv
    | true =>
      refine .bind (.bind ((elts i s4 hin eok.symm c4.hr c4.lr).mono fun y s5 yy4 => ?_))
      obtain ⟨ry, ρ5, hr5, st5⟩ := yy4
      have c5 := c4.move z F.frame hr5 st5
      have hys : ys.size ≤ sizeLine := by
        have e1 := rv.length
        rw [List.length_map] at e1
        have e2 := List.length_filter_le p (List.range i)
        rw [List.length_range] at e2
        simp only [Array.length_toList] at e1
        rw [sizeLine_eq]; omega
      refine .bind (.lift (wpAny_list_append_plain (hsz := hys) c5.acc fun h6 hl6 hs6 => ?_))
      refine .pure (.pure ⟨rfl, ih (i + 1) _ _ (ys.push y) (by omega) hin hl' (?_ : CI w B ρ h cenv nm' xs' ((vals i).map some ++ tl) D (ys.push y) St (i + 1) s₁ { s5 with heap := h6 }) ?_⟩)
      · refine ⟨c5.hr.otherE (tk := s5.toks) hs6.extBut z.accB z.accR, c5.lr.keep fun a o ha e => hs6.extBut a o (fun e' => ?_) e, hl6, F.frame _ _ _ c5.st fun b o hb e => hs6.extBut b o (fun e' => z.accO (e' ▸ hb)) e, fun b o e hb => hs6.extBut b o (fun e' => ?_) (c5.pres b o e hb), ?_⟩
        · rcases ha with ha | ⟨y, hy⟩
          · exact z.accC (e'.symm.trans ha)
          · exact z.accL y (e' ▸ hy)
        · rw [e', z.accN] at e; cases e
        · obtain ⟨a1, b1, e1⟩ := c5.rest
          rw [e1]; exact ⟨_, _, rfl⟩
      · rw [range_succ_filter, ← eok]
        simp only [if_true, Array.toList_push]
        exact rv.append ⟨ry, trivial⟩
end
end Mine
end
section
set_option maxRecDepth 100000
namespace Mine
open PySem PySem.W PyProof.Rows PySem.SeqAt
section
variable {w : World} {B : Heap} {A : Around} {ρ ρ₁ ρ₂ ρ₀ : R} {h h₁ : H} {s s₁ s₂ s₀ : Shared} {env cenv : Env} {nm nm' : List (Str × NameKind)} {xs xs' : List Str} {l l₁ tl : L} {n : Nat} {sc : Scope} {ts : List Str} {fr : List Nat}
structure Fit (nm : List (Str × NameKind)) (xs : List Str) (sc : Scope) (ts : List Str) (fr : List Nat) : Prop where
  kind : sc.kind = .function
  noCell : ∀ p ∈ sc.names, p.2 ≠ .cell
  locs : ∀ p ∈ sc.names, p.2 = .local → sc.names.lookup p.1 = some .local
  frs : ∀ n, (n, NameKind.free) ∈ sc.names → ∃ i ∈ fr, xs[i]? = some n
  tgs : ∀ t ∈ ts, (relabelN nm sc.names).lookup t = some .local
  fre : ∀ i ∈ fr, ∃ y, xs[i]? = some y ∧ xs.getD i default = y ∧ (y, NameKind.free) ∈ sc.names ∧ nm.lookup y = some .cell ∧ (relabelN nm sc.names).lookup y = some .cell
  nodup : (cXs xs ts fr).Nodup
theorem fit_of (hf : scopeFit nm xs sc ts fr = true) : Fit nm xs sc ts fr := by
  unfold scopeFit at hf
  refine and7 hf fun c1 c2 c3 c4 c5 c6 c7 => ?_
  refine ⟨beq_iff_eq.mp c1, fun p hp => by simpa using List.all_eq_true.mp c2 p hp, fun p hp e => ?_, fun n hn => ?_, fun t ht => beq_iff_eq.mp (List.all_eq_true.mp c5 t ht), fun i hi => ?_, of_decide_eq_true c7⟩
  · have := List.all_eq_true.mp c3 p hp
    rw [e] at this
    simpa using this
  · have := List.all_eq_true.mp c4 _ hn
    obtain ⟨i, hi, e⟩ := List.any_eq_true.mp (by simpa using this : (fr.any fun i => xs[i]? == some n) = true)
    exact ⟨i, hi, beq_iff_eq.mp e⟩
  · have := List.all_eq_true.mp c6 i hi
    refine and4 this fun d1 d2 d3 d4 => ?_
    have hi' := of_decide_eq_true d1
    refine ⟨xs.getD i default, ?_, rfl, List.contains_iff_mem.mp d2, beq_iff_eq.mp d3, beq_iff_eq.mp d4⟩
    rw [List.getD_eq_getElem?_getD, List.getElem?_eq_getElem hi']
    rfl
theorem relabel_names (lr : LR w B ρ env nm xs l s) : (relabel sc env).names = relabelN nm sc.names := by
  unfold relabel relabelN
  dsimp only
  refine List.map_congr_left fun p hp => ?_
  unfold Env.kindOf
  rw [lr.kind, lr.names]
  simp
theorem free_cells (ft : Fit nm xs sc ts fr) (lr : LR w B ρ env nm xs l s) : ∀ n, (n, NameKind.free) ∈ sc.names → (env.cells.lookup n).isSome = true := fun n hn => by
  obtain ⟨i, hi, e⟩ := ft.frs n hn
  refine hide fun gp gg => ?_; obtain ⟨y, e1, _, _, e2, _⟩ := ft.fre i hi; refine gg ?_; clear gg gp
  rw [e] at e1; cases e1
  refine hide fun gp gg => ?_; obtain ⟨c, cv, hc, _⟩ := lr.cel i n e (.inl e2); refine gg ?_; clear gg gp
  rw [hc]; rfl
theorem lr_inner {m : Str → Option Value} (ft : Fit nm xs sc ts fr) (lr : LR w B ρ env nm xs l s) (hsc : cenv.scope = relabel sc env) (hgl : cenv.globals = env.globals) (hbl : cenv.builtins = env.builtins) (hce : cenv.cells = closeOf env sc.names [])
    (hns : s.heap.Ns cenv.locals m) (hfr : B.get? cenv.locals = none ∧ ∀ p ∈ ρ, cenv.locals ≠ p.1 ∧ cenv.locals ≠ p.2) (hne : ∀ x c, env.cells.lookup x = some c → c ≠ cenv.locals) :
    LR w B ρ cenv (relabelN nm sc.names) (cXs xs ts fr) (ts.map (fun _ => none) ++ frees fr l) s := by
  have fc := free_cells ft lr
  have snd := closeOf_sound (env := env) sc.names [] fc (fun y c e => by simp at e)
  have at_ : ∀ (i : Nat) y, (cXs xs ts fr)[i]? = some y → (i < ts.length ∧ (relabelN nm sc.names).lookup y = some .local) ∨ ∃ j k, ts.length ≤ i ∧ fr[j]? = some k ∧ i = ts.length + j ∧ xs[k]? = some y ∧ (y, NameKind.free) ∈ sc.names ∧ nm.lookup y = some .cell ∧ (relabelN nm sc.names).lookup y = some .cell := fun i y e => by
    unfold cXs at e
    rcases Nat.lt_or_ge i ts.length with hi | hi
    · rw [List.getElem?_append_left hi] at e
      exact .inl ⟨hi, ft.tgs y (List.mem_of_getElem? e)⟩
    · rw [List.getElem?_append_right hi, List.getElem?_map] at e
      obtain ⟨k, hk, ek⟩ := Option.map_eq_some_iff.mp e
      refine hide fun gp gg => ?_; obtain ⟨y', e1, e2, e3, e4, e5⟩ := ft.fre k (List.mem_of_getElem? hk); refine gg ?_; clear gg gp
      rw [e2] at ek; subst ek
      exact .inr ⟨i - ts.length, k, hi, hk, by (first | lia | omega), e1, e3, e4, e5⟩
  refine ⟨by rw [hsc]; exact ft.kind, by rw [hsc]; exact relabel_names lr, hgl.trans lr.globals, hbl.trans lr.builtins, by simp [cXs, frees], ft.nodup, ⟨m, hns, fun i y h1 h2 v h3 => ?_⟩, fun i y h1 h2 => ?_, fun y c hc => ?_, fun a ha => ?_, fun y c hc => ?_, fun x y c hx hy => ?_⟩
  · exfalso
    rcases at_ i y h1 with ⟨hi, _⟩ | ⟨j, k, _, _, _, _, _, _, e5⟩
    · rw [List.getElem?_append_left (by simpa using hi), List.getElem?_map] at h3
      obtain ⟨z, _, e⟩ := Option.map_eq_some_iff.mp h3
      cases e
    · rw [h2] at e5; cases e5
  · rcases at_ i y h1 with ⟨hi, e⟩ | ⟨j, k, hi, hk, ei, e1, e3, e4, e5⟩
    · rcases h2 with h2 | h2 <;> (rw [e] at h2; cases h2)
    · refine hide fun gp gg => ?_; obtain ⟨c, cv, hc, hcell, hv⟩ := lr.cel k y e1 (.inl e4); refine gg ?_; clear gg gp
      obtain ⟨c', hc'⟩ := Option.isSome_iff_exists.mp (closeOf_some (env := env) sc.names [] (.inr e3))
      have ec := snd y c' hc'
      rw [hc] at ec; cases ec
      refine ⟨c, cv, by rw [hce]; exact hc', hcell, fun v h3 => hv v ?_⟩
      rw [List.getElem?_append_right (by simpa using hi)] at h3
      unfold frees at h3
      rw [List.getElem?_map, List.length_map, ei, Nat.add_sub_cancel_left, hk] at h3
      simp only [Option.map_some, Option.some.injEq] at h3
      cases hl : l[k]? with
      | none => rw [hl] at h3; cases h3
      | some o => rw [hl] at h3; rw [show o = some v from h3]
  · rw [hce] at hc
    exact lr.alive y c (snd y c hc)
  · rcases ha with rfl | ⟨y, hy⟩
    · exact hfr
    · rw [hce] at hy
      exact lr.own a (.inr ⟨y, snd y a hy⟩)
  · rw [hce] at hc
    exact hne y c (snd y c hc)
  · rw [hce] at hx hy
    exact lr.celInj x y c (snd x c hx) (snd y c hy)
theorem comp_main {target : Expr} {it : Value} {vals : Nat → List V} {own : Addr → Prop} {St : Nat → Heap → Prop} {elt' iter : Expr} {ifs : List Expr} {pos : Pos} {p : Nat → Bool} {f : Nat → V} {h2 : Heap} {tk2 : Nat}
    {Rr : Value → Addr → Result → Shared → Prop}
    (ft : Fit nm xs sc ts fr) (hr : HR w B ρ h s₁) (lr : LR w B ρ env nm xs l s₁) (F : Feed w B A target ts it ρ h n vals own St) (hn : n ≤ 1000) (hlen : ∀ i, (vals i).length = ts.length)
    (more : ∀ b o, s₁.heap.get? b = some o → h2.get? b = some o) (hsz : s₁.heap.objs.size ≤ h2.objs.size) (st0 : St 0 h2) (hown : ∀ b, own b → s₁.heap.objs.size ≤ b ∧ b < h2.objs.size)
    (tests : ∀ cenv i s, i < n → HR w B ρ h s → LR w B ρ cenv (relabelN nm sc.names) (cXs xs ts fr) ((vals i).map some ++ frees fr l) s →
      wX (model pw w) A (forIn ifs true fun c r => if r = true then do let ok ← isTrue c cenv (eval c cenv); pure (ForInStep.yield ok) else pure (ForInStep.yield r)) (fun ok s' => ok = p i ∧ ∃ ρ', HR w B ρ h s' ∧ Step ρ ρ' s s') s)
    (elts : ∀ cenv i s, i < n → p i = true → HR w B ρ h s → LR w B ρ cenv (relabelN nm sc.names) (cXs xs ts fr) ((vals i).map some ++ frees fr l) s →
      wX (model pw w) A (eval elt' cenv) (fun y s' => RV ρ (f i) y ∧ ∃ ρ', HR w B ρ h s' ∧ Step ρ ρ' s s') s)
    (fin : ∀ D C fl s', s₁.heap.objs.size ≤ D → s₁.heap.objs.size ≤ C → C ≠ D → HR w B (ρ ++ [(D, D)]) (h ++ [.list (((List.range n).filter p).map f)]) s' → Step ρ (ρ ++ [(D, D)]) s₁ s' → (∃ m, s'.heap.Ns C m) → Rr (.ref D) C (.ok fl) s') :
    wpAny (model pw w) A (newList []) (fun acc s₃ => wpAny (model pw w) A (newFunctionEnv sc env.globals (closeOf env sc.names []) [] env.qual none .none (some env)) (fun cenv s₄ =>
      cX (model pw w) A (.compStart (.ListComp elt' [⟨target, iter, ifs, 0⟩] sc pos) 0 it acc { cenv with scope := relabel sc env }) (Rr acc cenv.locals) s₄) no s₃) no { s₁ with heap := h2, toks := tk2 } := by
  refine wpAny_newObj_type (wpAny_newFunctionEnv ft.noCell (by intro y hy; simp at hy) (fun h3 hns hsb => ?_) ft.kind)
  dsimp only at hns hsb ⊢
  generalize hH2 : h2.push { cls := .type "list", dict := none, data := .seq ([] : List Value).toArray } = H2 at hns hsb ⊢
  have hC : H2.objs.size = h2.objs.size + 1 := by rw [← hH2, Heap.size_push]
  have hDC : h2.objs.size ≠ H2.objs.size := by rw [hC]; exact Nat.ne_of_lt (Nat.lt_succ_self _)
  have hCD : H2.objs.size ≠ h2.objs.size := Ne.symm hDC
  have hsC : s₁.heap.objs.size ≤ H2.objs.size := by rw [hC]; exact Nat.le_succ_of_le hsz
  have old2 : ∀ b o, h2.get? b = some o → h3.get? b = some o := fun b o e => hsb.extBut b o (by rw [hC]; exact Nat.ne_of_lt (Nat.lt_succ_of_lt (Heap.lt_size e))) (Heap.get?_push_of_some _ (hH2 ▸ Heap.get?_push_of_some _ e))
  have old : ∀ b o, s₁.heap.get? b = some o → h3.get? b = some o := fun b o e => old2 b o (more b o e)
  have acc : h3.PlainList h2.objs.size #[] := ⟨_, hsb.extBut _ _ hDC (Heap.get?_push_of_some _ (hH2 ▸ Heap.get?_push_size _ rfl))⟩
  have big : ∀ a, s₁.heap.objs.size ≤ a → s₁.heap.get? a = none ∧ B.get? a = none ∧ (∀ p ∈ ρ, a ≠ p.1 ∧ a ≠ p.2) ∧ (∀ x, env.cells.lookup x ≠ some a) := fun a ha =>
    ⟨get_big ha, (hr.new ha).1, fun p hp => ⟨Nat.ne_of_gt (Nat.lt_of_lt_of_le (hr.lt hp).1 ha), Nat.ne_of_gt (Nat.lt_of_lt_of_le (hr.lt hp).2 ha)⟩, fun x hx => by
      obtain ⟨o, ho⟩ := lr.alive x a hx
      exact Nat.lt_irrefl _ (Nat.lt_of_lt_of_le (Heap.lt_size ho) ha)⟩
  have fc := free_cells ft lr
  have snd := closeOf_sound (env := env) sc.names [] fc (fun y c e => by simp at e)
  have bD := big h2.objs.size hsz
  have bC := big H2.objs.size hsC
  have main : ∀ (cenv : Env) (s4 : Shared), cenv.scope = relabel sc env → cenv.globals = env.globals → cenv.builtins = env.builtins → cenv.cells = closeOf env sc.names [] → cenv.locals = H2.objs.size → (∃ tk, s4 = { s₁ with heap := h3, toks := tk }) →
      cX (model pw w) A (.compLoop (.ListComp elt' [⟨target, iter, ifs, 0⟩] sc pos) 0 it (.ref h2.objs.size) cenv) (Rr (.ref h2.objs.size) H2.objs.size) s4 := by
    rintro cenv s4 c1 c2 c3 c4 c5 ⟨tk, rfl⟩
    have hr4 : HR w B ρ h { s₁ with heap := h3, toks := tk } := hr.more old
    have lr4 : LR w B ρ cenv (relabelN nm sc.names) (cXs xs ts fr) (ts.map (fun _ => none) ++ frees fr l) { s₁ with heap := h3, toks := tk } :=
      lr_inner ft (lr.keep fun a o _ e => old a o e) c1 c2 c3 c4 (m := fun x => ([] : List (Str × Value)).reverse.lookup x) (by rw [c5]; exact hns) (by rw [c5]; exact ⟨bC.2.1, bC.2.2.1⟩) fun x c hx e => bC.2.2.2 x (by rw [← c5, ← e]; exact hx)
    have z : Zone B ρ cenv h2.objs.size own s₁ := by
      refine ⟨bD.2.2.1, bD.2.1, by rw [c5]; exact hDC, fun x hx => ?_, fun hb => Nat.lt_irrefl _ (hown _ hb).2, bD.1, fun hb => ?_, fun b hb => ?_, fun b hb => (big b (hown b hb).1).1, by rw [c5]; exact bC.1⟩
      · rw [c4] at hx; exact bD.2.2.2 x (snd x _ hx)
      · rw [c5] at hb; have := (hown _ hb).2; rw [hC] at this; exact Nat.lt_irrefl _ (Nat.lt_of_succ_lt this)
      · have bb := big b (hown b hb).1
        exact ⟨bb.2.1, bb.2.2.1, fun x hx => by rw [c4] at hx; exact bb.2.2.2 x (snd x _ hx)⟩
    have ci : CI w B ρ h cenv (relabelN nm sc.names) (cXs xs ts fr) (ts.map (fun _ => none) ++ frees fr l) h2.objs.size #[] St 0 s₁ { s₁ with heap := h3, toks := tk } :=
      ⟨hr4, lr4, acc, F.frame _ _ _ st0 fun b o _ e => old2 b o e, fun b o e _ => old b o e, ⟨_, _, rfl⟩⟩
    refine (comp_loop F hn z hlen ft.tgs ⟨_, rfl⟩ (tests cenv) (elts cenv) n 0 _ _ #[] rfl (Nat.zero_le _) (by simp) ci (by trivial)).mono fun r s' zz0 => ?_
    refine hide fun gp gg => ?_; obtain ⟨⟨fl, er⟩, hr', hns', ⟨ys, hys, rv⟩, hp, hrest⟩ := zz0; refine gg ?_; clear gg gp
    subst er
    obtain ⟨kk, gk⟩ := hys
    have g3 := hr.new hsz
    refine fin _ _ fl s' hsz hsC hCD ?_ ⟨⟨[_], rfl, fun q hq => ?_⟩, hp, hrest⟩ (by rw [← c5]; exact hns')
    · exact hr'.adopt (p := (h2.objs.size, h2.objs.size)) (fun q hq => ⟨⟨(bD.2.2.1 q hq).1.symm, (bD.2.2.1 q hq).1.symm⟩, ⟨(bD.2.2.1 q hq).2.symm, (bD.2.2.1 q hq).2.symm⟩⟩) ⟨⟨g3.1, g3.1⟩, g3.2, g3.2⟩ ⟨rfl, ys, kk, gk, rv.mono (sub_push _)⟩
    · rw [List.mem_singleton.mp hq]; exact ⟨bD.1, bD.1⟩
  have m1 := main (compEnvC sc (closeOf env sc.names []) H2.objs.size env) { s₁ with heap := h3, toks := tk2 + ([] : List (Str × Value)).length } rfl rfl rfl rfl rfl ⟨_, rfl⟩
  exact cX_compStart m1 (F.self 0 _ _ (F.frame _ _ _ st0 fun b o _ e => old2 b o e) m1)
end
end Mine
end
section
set_option maxRecDepth 100000
namespace Mine
open PySem PySem.W PyProof.Rows PySem.SeqAt
section
variable {w : World} {B : Heap} {A : Around} {ρ ρ₁ ρ₂ ρ₀ : R} {h h₁ : H} {s s₁ s₂ s₀ : Shared} {env cenv : Env} {nm nm' : List (Str × NameKind)} {xs xs' : List Str} {l l₁ tl : L} {n : Nat} {sc : Scope} {ts : List Str} {fr : List Nat}
theorem folded_no {e : E} {x : Expr} (hx : mE nm xs e x = true) (v : Value) : foldedSetIterable x env v = pure v := by
  cases x with
  | Set _ _ _ => exact absurd ((show mE _ _ e (.Set _ _ _) = false by cases e <;> rfl).symm.trans hx) (by decide)
  | _ => rfl
theorem two_of {l : L} (h : l.length = 2) : ∃ x y, l = [x, y] := by
  rcases l with _ | ⟨x, _ | ⟨y, _ | ⟨z, r⟩⟩⟩
  · exact absurd (show (0 : Nat) = 2 from h) (by decide)
  · exact absurd (show (1 : Nat) = 2 from h) (by decide)
  · exact ⟨x, y, rfl⟩
  · exact absurd (Nat.succ.inj (Nat.succ.inj h)) (Nat.succ_ne_zero _)
/-- a value feeds a comprehension; s₁ is the state before the value was made -/
noncomputable def Feeds (w : World) (B : Heap) (A : Around) (target : Expr) (ts : List Str) (xv : Value) (ρ : R) (h : H) (n : Nat) (vals : Nat → List V) (s₁ s : Shared) : Prop :=
  wpAny (model pw w) A (pyIter xv) (fun it s₂ => ∃ own St h2 tk2, s₂ = { s₁ with heap := h2, toks := tk2 } ∧ Feed w B A target ts it ρ h n vals own St ∧ (∀ b o, s₁.heap.get? b = some o → h2.get? b = some o) ∧ s₁.heap.objs.size ≤ h2.objs.size ∧ St 0 h2 ∧
    ∀ b, own b → s₁.heap.objs.size ≤ b ∧ b < h2.objs.size) no s
theorem feeds_list {k : Nat} {vs : List V} {xv : Value} {t : Str} {pt : Pos} (hh : A.handled = none) (hr : HR w B ρ h s) (e : h[k]? = some (.list vs)) (rv : RV ρ (.obj k) xv) : Feeds w B A (.Name t pt) [t] xv ρ h vs.length (fun i => [vs.getD i .none]) s s := by
  refine hide fun gp gg => ?_; obtain ⟨p, hp, rfl, z, arr, nn, g, rl⟩ := hr.val e rv; refine gg ?_; clear gg gp
  refine wpAny_pyIter_list ⟨_, g, rfl, _, rfl⟩ ⟨fun b => b = s.heap.objs.size, fun i x => x.IsListIter s.heap.objs.size p.1 i, _, s.toks, rfl, ?_, fun b o e => Heap.get?_push_of_some _ e, by rw [Heap.size_push]; exact Nat.le_succ _, ⟨_, Heap.get?_push_size _ rfl, rfl, rfl⟩,
    fun b hb => by subst hb; rw [Heap.size_push]; exact ⟨Nat.le_refl _, Nat.lt_succ_self _⟩⟩
  refine ⟨fun i x x' st hk => st.imp fun o z => ⟨hk _ o rfl z.1, z.2⟩, fun i l tl u cenv nm' xs' hi st hr lr hl hxs hts hoc hol => ?_, fun u st hr => ?_, fun i u Q st q => wpAny_pyIter_listiter st q⟩
  · refine hide fun gp gg => ?_; obtain ⟨z, arr, nn, g, rl⟩ := hr.objs k _ p e hp; refine gg ?_; clear gg gp
    have hv : vs[i]? = some (vs.getD i .none) := by rw [List.getD_eq_getElem?_getD, List.getElem?_eq_getElem hi]; rfl
    obtain ⟨val, hval, rval⟩ := rl.get hv
    refine wpAny_pyNext_list_item st ⟨_, g, rfl, _, rfl⟩ (x := val) (by simpa using hval) fun h' hit' hs' => ⟨val, rfl, ?_⟩
    refine wpAny_pure ?_
    rw [arm_assign_Name]
    obtain ⟨ob, oo, ol⟩ := hol _ rfl
    have hr1 : HR w B ρ h { u with heap := h', toks := u.toks } := hr.otherE hs'.extBut ob oo
    have lr1 : LR w B ρ cenv nm' xs' (l ++ tl) { u with heap := h', toks := u.toks } := lr.keep fun a o ha e => hs'.extBut a o (fun e' => by
      rcases ha with ha | ⟨y, hy⟩
      · exact hoc (ha.symm.trans e')
      · exact ol y (e' ▸ hy)) e
    obtain ⟨r, rfl⟩ := hxs
    have el : ∃ x, l = [x] := List.length_eq_one_iff.mp hl
    obtain ⟨x0, rfl⟩ := el
    refine wpAny_bind (wpAny_standAt (wpAny_mono (store_local2 (i := 0) hr1 lr1 rfl (hts t List.mem_cons_self) rval) (fun _ s' zz => ?_) fun _ _ e => e))
    refine hide fun gp gg => ?_; obtain ⟨⟨a1, a2, _⟩, h'', tk, es, hs2⟩ := zz; refine gg ?_; clear gg gp
    refine ⟨a1, a2, ?_, fun b o hbC hbo e => ?_, ?_⟩
    · rw [es]
      obtain ⟨o, ho, r⟩ := hit'
      exact ⟨o, hs2.extBut _ _ (fun e' => hoc e'.symm) ho, r⟩
    · rw [es]
      exact hs2.extBut b o hbC (hs'.extBut b o hbo e)
    · rw [es]; exact ⟨_, _, rfl⟩
  · refine hide fun gp gg => ?_; obtain ⟨z, arr, nn, g, rl⟩ := hr.objs k _ p e hp; refine gg ?_; clear gg gp
    have := rl.length
    exact wpAny_pyNext_list_end hh st ⟨_, g, rfl, _, rfl⟩ (by simp at this; simp [this]) fun h' he => ⟨rfl, fun b o hb e => he b o hb e, h', u.toks, rfl⟩
theorem feeds_enum {e it : Addr} {b : Array UInt8} {tb : Tok} {t u : Str} {pt pu pq : Pos} {kk : Nat} (hh : A.handled = none) (hei : e ≠ it) (he : IsEnum s.heap e it 0 .none) (hit : KBw.IsBytesIter s.heap it b tb 0) (hnd : t ≠ u)
    (hlo : s₁.heap.objs.size ≤ e ∧ s₁.heap.objs.size ≤ it) (more : ∀ b o, s₁.heap.get? b = some o → s.heap.get? b = some o) (hsz : s₁.heap.objs.size ≤ s.heap.objs.size) (es : ∃ h' tk, s = { s₁ with heap := h', toks := tk }) :
    Feeds w B A (.Tuple [.Name t pt, .Name u pu] kk pq) [t, u] (.ref e) ρ h b.size (fun i => [.int i, .int (b.getD i 0).toNat]) s₁ s := by
  obtain ⟨hs, tks, es⟩ := es
  have hlt : e < s.heap.objs.size := Heap.lt_size he
  have ilt : it < s.heap.objs.size := by obtain ⟨o, ho, _⟩ := hit; exact Heap.lt_size ho
  refine wpAny_pyIter_enum he ⟨fun b => b = e ∨ b = it, fun i x => (∃ old, IsEnum x e it i old) ∧ KBw.IsBytesIter x it b tb i, s.heap, tks, by rw [es], ?_, more, hsz, ⟨⟨_, he⟩, hit⟩, fun b hb => by
    rcases hb with rfl | rfl
    · exact ⟨hlo.1, hlt⟩
    · exact ⟨hlo.2, ilt⟩⟩
  clear he hit more hsz es hlo hlt ilt hs tks
  refine ⟨fun i x x' st hk => ⟨st.1.imp fun _ h1 => hk _ _ (.inl rfl) h1, st.2.imp fun o z => ⟨hk _ o (.inr rfl) z.1, z.2⟩⟩, fun i l tl v cenv nm' xs' hi st hr lr hl hxs hts hoc hol => ?_, fun v st hr => ?_, fun i v Q st q => wpAny_pyIter_enum st.1.choose_spec q⟩
  · obtain ⟨⟨old, he⟩, hit⟩ := st
    have hx : b[i]? = some (b.getD i 0) := by rw [Array.getD_eq_getD_getElem?, Array.getElem?_eq_getElem hi]; rfl
    have elt : e < v.heap.objs.size := Heap.lt_size he
    have ilt : it < v.heap.objs.size := by obtain ⟨o, ho, _⟩ := hit; exact Heap.lt_size ho
    refine enum_pyNext he hit hx hei fun h1 hout hit1 htup hsz1 keep1 => ⟨_, rfl, ?_⟩
    refine wpAny_letOwnedTupleGo_enum hout fun h2 he2 hs2 => ?_
    have keep2 : ∀ a o, a ≠ e → a ≠ it → v.heap.get? a = some o → h2.get? a = some o := fun a o h3 h4 e => hs2.extBut a o h3 (keep1 a o h3 h4 e)
    have htup2 : h2.get? v.heap.objs.size = some { cls := .type "tuple", data := .seq #[.int i (v.toks + 1), .int (b.getD i 0).toNat v.toks] } := hs2.extBut _ _ (Nat.ne_of_gt elt) htup
    have hit2 : KBw.IsBytesIter h2 it b tb (i + 1) := by obtain ⟨o, ho, r⟩ := hit1; exact ⟨o, hs2.extBut _ _ (Ne.symm hei) ho, r⟩
    rw [arm_assign_Tuple]
    refine wpAny_bind (wpAny_standAt ?_)
    show wpAny _ _ (do assignInOrder [assign (.Name t pt) cenv, assign (.Name u pu) cenv] (← holding [.ref v.heap.objs.size] (unpackItems (.ref v.heap.objs.size) 2 none))) _ _ _
    refine wpAny_bind (wpAny_holding (unpackItems_tuple (items := #[.int i (v.toks + 1), .int (b.getD i 0).toNat v.toks]) hh ⟨_, htup2, rfl, _, rfl⟩ fun h3 hk3 => ?_))
    replace hk3 : Heap.ExtBut h2.objs.size h2 h3 := hk3
    have hz2 : h2.objs.size = v.heap.objs.size + 1 := hs2.1.trans hsz1
    have keep3' : ∀ a o, h2.get? a = some o → h3.get? a = some o := fun a o e => hk3 a o (Nat.ne_of_lt (Heap.lt_size e)) e
    have keep3 : ∀ a o, ¬ (a = e ∨ a = it) → v.heap.get? a = some o → h3.get? a = some o := fun a o hn e => keep3' a o (keep2 a o (fun e' => hn (.inl e')) (fun e' => hn (.inr e')) e)
    have hr3 : HR w B ρ h { v with heap := h3, toks := v.toks + 1 + 1 } := hr.others keep3 fun a ha => ⟨(hol a ha).1, (hol a ha).2.1⟩
    have lr3 : LR w B ρ cenv nm' xs' (l ++ tl) { v with heap := h3, toks := v.toks + 1 + 1 } := lr.keep fun a o ha e => keep3 a o (fun e' => by
      rcases ha with ha | ⟨y, hy⟩
      · exact hoc (ha ▸ e')
      · exact (hol a e').2.2 y hy) e
    obtain ⟨r, rfl⟩ := hxs
    have el : ∃ x y, l = [x, y] := two_of hl
    obtain ⟨x0, y0, rfl⟩ := el
    show wpAny _ _ (do holding [_] (assign (.Name t pt) cenv _); assignInOrder [assign (.Name u pu) cenv] [_]) _ _ _
    rw [arm_assign_Name]
    refine wpAny_bind (wpAny_holding (wpAny_bind (wpAny_standAt (wpAny_mono (store_local2 (i := 0) (v := .int i) hr3 lr3 rfl (hts t List.mem_cons_self) ⟨_, rfl⟩) (fun _ s4 zz => ?_) fun _ _ e => e))))
    refine hide fun gp gg => ?_; obtain ⟨⟨hr4, lr4, _⟩, h4, tk4, es4, hs4⟩ := zz; refine gg ?_; clear gg gp
    show wpAny _ _ (do holding [] (assign (.Name u pu) cenv _); assignInOrder [] []) _ _ _
    rw [arm_assign_Name]
    refine wpAny_bind (wpAny_holding (wpAny_bind (wpAny_standAt (wpAny_mono (store_local2 (i := 1) (v := .int (b.getD i 0).toNat) hr4 lr4 rfl (hts u (List.mem_cons_of_mem _ List.mem_cons_self)) ⟨_, rfl⟩) (fun _ s5 zz => ?_) fun _ _ e => e))))
    refine hide fun gp gg => ?_; obtain ⟨⟨hr5, lr5, _⟩, h5, tk5, es5, hs5⟩ := zz; refine gg ?_; clear gg gp
    refine wpAny_pure ?_
    have hne : ∀ a, (a = e ∨ a = it) → a ≠ cenv.locals := fun a ha e' => hoc (e' ▸ ha)
    have up : ∀ a o, a ≠ cenv.locals → h3.get? a = some o → s5.heap.get? a = some o := fun a o ha e => by
      rw [es5]
      refine hs5.extBut a o ha ?_
      rw [es4]
      exact hs4.extBut a o ha e
    have hE : ∃ old, IsEnum s5.heap e it ((i : Int) + 1) old := ⟨_, up _ _ (hne e (.inl rfl)) (keep3' _ _ he2)⟩
    refine ⟨hr5, lr5, ⟨?_, ?_⟩, fun a o haC hao ea => up a o haC (keep3 a o hao ea), ?_⟩
    · rw [show ((i + 1 : Nat) : Int) = (i : Int) + 1 by push_cast; rfl]
      exact hE
    · obtain ⟨o, ho, r⟩ := hit2
      exact ⟨o, up _ _ (hne it (.inr rfl)) (keep3' _ _ ho), r⟩
    · rw [es5, es4]; exact ⟨_, _, rfl⟩
  · obtain ⟨⟨old, he⟩, hit⟩ := st
    exact enum_end hh he hit (by simp) fun h' hx => ⟨rfl, fun a o ha e => hx a o (fun e' => ha (.inr e')) e, h', v.toks, rfl⟩
end
end Mine
end
section
set_option maxRecDepth 100000
namespace Mine
open PySem PySem.W PyProof.Rows PySem.SeqAt
section
variable {w : World} {B : Heap} {A : Around} {ρ ρ₁ ρ₂ ρ₀ : R} {h h₁ : H} {s s₁ s₂ s₀ : Shared} {env cenv : Env} {nm nm' : List (Str × NameKind)} {xs xs' : List Str} {l l₁ tl : L} {n : Nat} {sc : Scope} {ts : List Str} {fr : List Nat} {Q : K1}
/-- an object that the beginning did not know is changed -/
theorem Go.new {a : Addr} {h' : Heap} {tk : Nat} (g : Go env ρ ρ₁ s s₁) (ha : s.heap.get? a = none) (hs : Heap.ExtBut a s₁.heap h') : Go env ρ ρ₁ s { s₁ with heap := h', toks := tk } := by
  refine ⟨g.ext, fun b o e h1 h2 h3 => hs b o (fun e' => ?_) (g.pres b o e h1 h2 h3), ?_⟩
  · rw [e', ha] at e; cases e
  · obtain ⟨a1, b1, e1⟩ := g.rest
    rw [e1]; exact ⟨_, _, rfl⟩
noncomputable def CompPre (w : World) (B : Heap) (A : Around) (nm : List (Str × NameKind)) (xs : List Str) (l : L) (sc : Scope) (ts : List Str) (fr : List Nat) (target elt' : Expr) (ifs : List Expr) (ρ : R) (s : Shared) (Q : K1) : Value → Shared → Prop := fun xv s' =>
  ∃ s₁ h₁ ρ₁ n vals p f, HR w B ρ₁ h₁ s₁ ∧ Step ρ ρ₁ s s₁ ∧ n ≤ 1000 ∧ (∀ i, (vals i).length = ts.length) ∧ Feeds w B A target ts xv ρ₁ h₁ n vals s₁ s' ∧
    (∀ cenv i s, i < n → HR w B ρ₁ h₁ s → LR w B ρ₁ cenv (relabelN nm sc.names) (cXs xs ts fr) ((vals i).map some ++ frees fr l) s →
      wX (model pw w) A (forIn ifs true fun c r => if r = true then do let ok ← isTrue c cenv (eval c cenv); pure (ForInStep.yield ok) else pure (ForInStep.yield r)) (fun ok s' => ok = p i ∧ ∃ ρ', HR w B ρ₁ h₁ s' ∧ Step ρ₁ ρ' s s') s) ∧
    (∀ cenv i s, i < n → p i = true → HR w B ρ₁ h₁ s → LR w B ρ₁ cenv (relabelN nm sc.names) (cXs xs ts fr) ((vals i).map some ++ frees fr l) s →
      wX (model pw w) A (eval elt' cenv) (fun y s' => RV ρ₁ (f i) y ∧ ∃ ρ', HR w B ρ₁ h₁ s' ∧ Step ρ₁ ρ' s s') s) ∧
    Q (.obj h₁.length) (h₁ ++ [.list (((List.range n).filter p).map f)])
noncomputable def CompAt (w : World) (B : Heap) (A : Around) (env : Env) (nm : List (Str × NameKind)) (xs : List Str) (fr : List Nat) (l : L) (ρ : R) (s : Shared) (x : Expr) (Q : K1) : Prop :=
  ∃ elt' target iter ifs sc pos ts, x = .ListComp elt' [⟨target, iter, ifs, 0⟩] sc pos ∧ Fit nm xs sc ts fr ∧ (∀ v, foldedSetIterable iter env v = pure v) ∧ wX (model pw w) A (eval iter env) (CompPre w B A nm xs l sc ts fr target elt' ifs ρ s Q) s
theorem eval_of {x : Expr} (lr : LR w B ρ env nm xs l s) (c : CompAt w B A env nm xs fr l ρ s x Q) : WX w B A (eval x env) ρ s Q := by
  refine hide fun gp gg => ?_; obtain ⟨elt', target, iter, ifs, sc, pos, ts, rfl, ft, hfold, hX⟩ := c; refine gg ?_; clear gg gp
  rw [eval_ListComp]
  refine comprehension_X (use := none) rfl hfold (closure_eq (free_cells ft lr)) ft.kind ft.locs (hX.mono fun xv s' zz0 => ?_)
  refine hide fun gp gg => ?_; obtain ⟨s₁, h₁, ρ₁, n, vals, p, f, hr1, st1, hn, hlen, fd, tests, elts, q⟩ := zz0; refine gg ?_; clear gg gp
  refine wpAny_mono fd (fun it s₂ zz0 => ?_) fun _ _ e => e
  refine hide fun gp gg => ?_; obtain ⟨own, St, h2, tk2, es, F, more, hsz, st0, hown⟩ := zz0; refine gg ?_; clear gg gp
  subst es
  refine comp_main ft hr1 (lr.step st1) F hn hlen more hsz st0 hown tests elts (Rr := fun acc C r s' => compPostX (model pw w) A none (PE w B ρ s Q) acc C r s') fun D C fl s' hD hC hne hr' st' hns => ?_
  refine ⟨⟨fl, rfl⟩, ?_⟩
  obtain ⟨m, hm⟩ := hns
  refine ⟨m, hm, fun h' hs' => ?_⟩
  have hnC := hr1.new hC
  refine ⟨.obj h₁.length, _, _, q, ⟨(D, D), by rw [← hr1.len, List.getElem?_append_right (Nat.le_refl _), Nat.sub_self]; rfl, rfl⟩, hr'.otherE (tk := s'.toks) hs'.extBut hnC.1 fun p hp => ?_, st1.then hr1 ⟨st'.ext, fun b o e hb => hs'.extBut b o (fun e' => ?_) (st'.pres b o e hb), ?_⟩⟩
  · rcases List.mem_append.mp hp with hp | hp
    · exact ⟨Nat.ne_of_gt (Nat.lt_of_lt_of_le (hr1.lt hp).1 hC), Nat.ne_of_gt (Nat.lt_of_lt_of_le (hr1.lt hp).2 hC)⟩
    · rw [List.mem_singleton.mp hp]; exact ⟨hne, hne⟩
  · rw [e', get_big hC] at e; cases e
  · obtain ⟨a1, b1, e1⟩ := st'.rest
    rw [e1]; exact ⟨_, _, rfl⟩
theorem use_of {x : Expr} {i : Nat} {y : Str} {py : Pos} {Q2 : L → H → Prop} (hr : HR w B ρ h s) (lr : LR w B ρ env nm xs l s) (hi : xs[i]? = some y) (hy : nm.lookup y = some .local)
    (c : CompAt w B A env nm xs fr l ρ s x fun v h1 => Q2 (l.set i (some v)) h1) :
    wX (model pw w) A (evalThenUse x env fun v => assignAll v ((assignEach [.Name y py] env).map (·.2))) (fun _ s' => ∃ l' h' ρ', Q2 l' h' ∧ HR w B ρ' h' s' ∧ LR w B ρ' env nm xs l' s' ∧ Go env ρ ρ' s s') s := by
  refine hide fun gp gg => ?_; obtain ⟨elt', target, iter, ifs, sc, pos, ts, rfl, ft, hfold, hX⟩ := c; refine gg ?_; clear gg gp
  rw [arm_evalThenUse_ListComp]
  refine .bind ?_
  refine wX.mono (Q := fun _ s' => ∃ l' h' ρ', Q2 l' h' ∧ HR w B ρ' h' s' ∧ LR w B ρ' env nm xs l' s' ∧ Go env ρ ρ' s s') ?_ fun _ _ z => .pure z
  refine comprehension_X (first := eval iter env) (g := ⟨target, iter, ifs, 0⟩) (gs := []) rfl hfold (closure_eq (free_cells ft lr)) ft.kind ft.locs (hX.mono fun xv s' zz0 => ?_)
  refine hide fun gp gg => ?_; obtain ⟨s₁, h₁, ρ₁, n, vals, p, f, hr1, st1, hn, hlen, fd, tests, elts, q⟩ := zz0; refine gg ?_; clear gg gp
  refine wpAny_mono fd (fun it s₂ zz0 => ?_) fun _ _ e => e
  refine hide fun gp gg => ?_; obtain ⟨own, St, h2, tk2, es, F, more, hsz, st0, hown⟩ := zz0; refine gg ?_; clear gg gp
  subst es
  refine comp_main ft hr1 (lr.step st1) F hn hlen more hsz st0 hown tests elts (Rr := fun acc C r s' => compPostX (model pw w) A _ _ acc C r s') fun D C fl s' hD hC hne hr' st' hns => ?_
  refine ⟨⟨fl, rfl⟩, ?_⟩
  obtain ⟨m, hm⟩ := hns
  show wX (model pw w) A (assign (.Name y py) env (.ref D)) _ s'
  rw [arm_assign_Name]
  have lr1 := lr.step st1
  have lr' := lr1.step st'
  have rv : RV (ρ₁ ++ [(D, D)]) (.obj h₁.length) (.ref D) := ⟨(D, D), by rw [← hr1.len, List.getElem?_append_right (Nat.le_refl _), Nat.sub_self]; rfl, rfl⟩
  have hnC := hr1.new hC
  have cL : C ≠ env.locals := fun e => by
    refine hide fun gp gg => ?_; obtain ⟨m, ⟨o, es, ep, ho, _⟩, _⟩ := lr1.loc; refine gg ?_; clear gg gp
    exact Nat.lt_irrefl _ (Nat.lt_of_lt_of_le (Heap.lt_size ho) (e ▸ hC))
  have cC : ∀ z, env.cells.lookup z ≠ some C := fun z hz => by
    obtain ⟨o, ho⟩ := lr1.alive z C hz
    exact Nat.lt_irrefl _ (Nat.lt_of_lt_of_le (Heap.lt_size ho) hC)
  have cS : s.heap.get? C = none := by
    cases e : s.heap.get? C with
    | none => rfl
    | some o => obtain ⟨o', e'⟩ := hr1.old st1 _ _ e; rw [get_big hC] at e'; cases e'
  refine .stand (.lift (wpAny_mono (store_local2 hr' lr' hi hy rv) (fun _ s'' yy0 => ?_) fun _ _ e => e))
  obtain ⟨⟨a1, a2, a3⟩, h'', tk, es, hs2⟩ := yy0
  refine ⟨m, by rw [es]; exact hm.sameBut hs2 cL, fun h3 hs3 => ?_⟩
  refine ⟨_, _, _, q, a1.otherE (tk := s''.toks) hs3.extBut hnC.1 (fun p hp => ?_), a2.keep fun a o ha e => hs3.extBut a o (fun e' => ?_) e, ((Go.of (st1.then hr1 st')).trans hr' lr' a3).new (tk := s''.toks) cS hs3.extBut⟩
  · rcases List.mem_append.mp hp with hp | hp
    · exact ⟨Nat.ne_of_gt (Nat.lt_of_lt_of_le (hr1.lt hp).1 hC), Nat.ne_of_gt (Nat.lt_of_lt_of_le (hr1.lt hp).2 hC)⟩
    · rw [List.mem_singleton.mp hp]; exact ⟨hne, hne⟩
  · rcases ha with ha | ⟨z, hz⟩
    · exact cL (e'.symm.trans ha)
    · exact cC z (e' ▸ hz)
theorem map_getD (vs : List V) (d : V) : (List.range vs.length).map (fun i => vs.getD i d) = vs := by
  apply List.ext_getElem?
  intro i
  rw [List.getElem?_map]
  rcases Nat.lt_or_ge i vs.length with hi | hi
  · rw [List.getElem?_range hi, List.getElem?_eq_getElem hi]
    simp [List.getD_eq_getElem?_getD, List.getElem?_eq_getElem hi]
  · rw [List.getElem?_eq_none (by simpa using hi), List.getElem?_eq_none hi]; rfl
theorem filter_getD (vs : List V) (d : V) (P : V → Bool) (F : V → V) : ((List.range vs.length).filter fun i => P (vs.getD i d)).map (fun i => F (vs.getD i d)) = (vs.filter P).map F := by
  have : vs.filter P = ((List.range vs.length).filter fun i => P (vs.getD i d)).map (fun i => vs.getD i d) := by
    have e := List.filter_map (f := fun i => vs.getD i d) (p := P) (l := List.range vs.length)
    rw [map_getD] at e
    exact e
  rw [this, List.map_map]; rfl
theorem elt_of {e : E} {x' : Expr} {v : V} (he : EvalOk w B n cenv nm' xs' e) (hx : mE nm' xs' e x' = true) (R : Room A n) (hr : HR w B ρ h s) (lr : LR w B ρ cenv nm' xs' l s)
    (q : wpE (G w B n) e l h fun y h2 => y = v ∧ plainV y = true ∧ ∃ g, h2 = h ++ g) : wX (model pw w) A (eval x' cenv) (fun y s' => RV ρ v y ∧ ∃ ρ', HR w B ρ h s' ∧ Step ρ ρ' s s') s := by
  refine wX.mono (he x' hx A ρ l h s _ R hr lr q) fun y s' zz0 => ?_
  refine hide fun gp gg => ?_; obtain ⟨u, h', ρ', ⟨e1, hp, g, eg⟩, rv, hr', st'⟩ := zz0; refine gg ?_; clear gg gp
  subst e1 eg
  obtain ⟨g', e', _⟩ := st'.ext
  subst e'
  exact ⟨rv.plain hp, _, hr'.drop hr, st'⟩
theorem test_of {e : E} {x' : Expr} {b : Bool} (he : TestOk w B n cenv nm' xs' e) (hx : mE nm' xs' e x' = true) (R : Room A n) (hr : HR w B ρ h s) (lr : LR w B ρ cenv nm' xs' l s)
    (q : wpE (G w B n) e l h fun y h2 => y = .bool b ∧ ∃ g, h2 = h ++ g) :
    wX (model pw w) A (forIn [x'] true fun c r => if r = true then do let ok ← isTrue c cenv (eval c cenv); pure (ForInStep.yield ok) else pure (ForInStep.yield r)) (fun ok s' => ok = b ∧ ∃ ρ', HR w B ρ h s' ∧ Step ρ ρ' s s') s := by
  simp only [List.forIn_cons, List.forIn_nil, if_true]
  refine .bind (.bind ((he x' hx A ρ l h s _ R hr lr (fun v h' q' => ⟨b, q'.1⟩) q).mono fun c s' zz0 => ?_))
  refine hide fun gp gg => ?_; obtain ⟨h', ρ', ⟨e1, g, eg⟩, hr', st'⟩ := zz0; refine gg ?_; clear gg gp
  subst eg
  obtain ⟨g', e', _⟩ := st'.ext
  subst e'
  cases e1
  exact .pure (.pure ⟨rfl, _, hr'.drop hr, st'⟩)
theorem notests {P : Bool → Shared → Prop} (h : P true s) : wX (model pw w) A (forIn ([] : List Expr) true fun c r => if r = true then do let ok ← isTrue c cenv (eval c cenv); pure (ForInStep.yield ok) else pure (ForInStep.yield r)) P s := by
  rw [List.forIn_nil]; exact .pure h
theorem boot_enumerate : bootBuiltins "enumerate" = some (.type "enumerate") := by decide +kernel
theorem at_comp {e it : E} {x : Expr} (he : ∀ env nm xs, EvalOk w B n env nm xs e) (hit : EvalOk w B n env nm xs it) (hx : mE nm xs (.comp fr e it) x = true) (R : Room A n) (hr : HR w B ρ h s) (lr : LR w B ρ env nm xs l s)
    (q : wpE (G w B n) (.comp fr e it) l h Q) : CompAt w B A env nm xs fr l ρ s x Q := by
  apply inv_comp hx; intro _ _ _ _ _ _ hx
  · rename_i e' t pt it' sc pos
    refine and3 hx fun h1 h3 h4 => ?_
    dsimp only [wK] at q
    refine ⟨_, _, _, _, _, _, _, rfl, fit_of h1, folded_no h4, wX.mono (hit _ h4 A ρ l h s _ R hr lr q) fun xv s₁ zz0 => ?_⟩
    refine hide fun gp gg => ?_; obtain ⟨v, h₁, ρ₁, q1, r1, hr1, st1⟩ := zz0; refine gg ?_; clear gg gp
    revert r1; apply vObj q1; intro k q1 r1
    refine oList q1 fun vs ek q1 => ?_
    · skip
      refine hide fun gp gg => ?_; obtain ⟨F, ⟨hn, hq⟩, q1⟩ := q1; refine gg ?_; clear gg gp
      refine ⟨s₁, h₁, ρ₁, vs.length, fun i => [vs.getD i .none], fun _ => true, fun i => F (vs.getD i .none), hr1, st1, hn, fun _ => rfl, feeds_list R.handled hr1 ek r1, fun cenv i s hi hr lr => notests ⟨rfl, _, hr, .refl⟩, fun cenv i s hi _ hr lr => ?_, ?_⟩
      · exact elt_of (he _ _ _) h3 R hr lr (hq _ (by rw [List.getD_eq_getElem?_getD, List.getElem?_eq_getElem hi]; exact List.getElem_mem hi))
      · have := filter_getD vs .none (fun _ => true) F
        rw [this]
        rw [List.filter_eq_self.mpr (fun _ _ => rfl)]
        exact q1
theorem at_compIf {e it c : E} {x : Expr} (he : ∀ env nm xs, EvalOk w B n env nm xs e) (hc : ∀ env nm xs, TestOk w B n env nm xs c) (hit : EvalOk w B n env nm xs it) (hx : mE nm xs (.compIf fr e it c) x = true) (R : Room A n) (hr : HR w B ρ h s) (lr : LR w B ρ env nm xs l s)
    (q : wpE (G w B n) (.compIf fr e it c) l h Q) : CompAt w B A env nm xs fr l ρ s x Q := by
  apply inv_compIf hx; intro _ _ _ _ _ _ _ hx
  · rename_i e' t pt it' c' sc pos
    refine and4 hx fun h1 h3 h5 h4 => ?_
    dsimp only [wL] at q
    refine ⟨_, _, _, _, _, _, _, rfl, fit_of h1, folded_no h4, wX.mono (hit _ h4 A ρ l h s _ R hr lr q) fun xv s₁ zz0 => ?_⟩
    refine hide fun gp gg => ?_; obtain ⟨v, h₁, ρ₁, q1, r1, hr1, st1⟩ := zz0; refine gg ?_; clear gg gp
    revert r1; apply vObj q1; intro k q1 r1
    refine oList q1 fun vs ek q1 => ?_
    · skip
      refine hide fun gp gg => ?_; obtain ⟨F, P, ⟨hn, hq⟩, q1⟩ := q1; refine gg ?_; clear gg gp
      have mem : ∀ i, i < vs.length → vs.getD i .none ∈ vs := fun i hi => by rw [List.getD_eq_getElem?_getD, List.getElem?_eq_getElem hi]; exact List.getElem_mem hi
      refine ⟨s₁, h₁, ρ₁, vs.length, fun i => [vs.getD i .none], fun i => P (vs.getD i .none), fun i => F (vs.getD i .none), hr1, st1, hn, fun _ => rfl, feeds_list R.handled hr1 ek r1, fun cenv i s hi hr lr => ?_, fun cenv i s hi hp hr lr => ?_, ?_⟩
      · exact test_of (hc _ _ _) h5 R hr lr (hq _ (mem i hi)).1
      · exact elt_of (he _ _ _) h3 R hr lr ((hq _ (mem i hi)).2 hp)
      · rw [filter_getD vs .none P F]
        exact q1
theorem at_compEn (bs : Base w B) {e it : E} {x : Expr} (he : ∀ env nm xs, EvalOk w B n env nm xs e) (hit : EvalOk w B n env nm xs it) (hx : mE nm xs (.compEn fr e it) x = true) (R : Room A n) (hr : HR w B ρ h s) (lr : LR w B ρ env nm xs l s)
    (q : wpE (G w B n) (.compEn fr e it) l h Q) : CompAt w B A env nm xs fr l ρ s x Q := by
  apply inv_compEn hx; intro _ _ _ _ _ _ _ _ _ _ _ _ hx
  · rename_i e' t pt u pu kk pq g it' pc sc pos
    refine and4 hx fun h1 h3 h5 h4 => ?_
    dsimp only [wM] at q
    have ft := fit_of h1
    refine ⟨_, _, _, _, _, _, _, rfl, ft, fun _ => rfl, ?_⟩
    have ec : eval (.Call g [it'] [] pc) env = (do callWith pc (← eval g env) [] (backTo pc (starEach [it'] env)) (backToKw pc (keywordEach [] env))) := by
      obtain ⟨pp, rfl, _⟩ := gName_of h5; rfl
    rw [ec]
    refine .bind (.lift (blt_ok bs hr lr h5 (blt_of _ (by decide +kernel)) (by decide +kernel) boot_enumerate ?_))
    rw [mE_star h4]
    refine callWith_X rfl ?_
    show wX _ _ (do let v ← eval it' env; let here ← pure [v]; return here ++ (← holding here (spliced []))) _ _
    refine WX.seq (hit _ h4 A ρ l h s _ R hr lr q) fun v val h₁ ρ₁ s₁ q1 r1 hr1 st1 => ?_
    refine .bind (.pure (.bind (.holding (.pure (.pure ⟨looksM rfl, .lift ?_⟩)))))
    cases v <;> (try exact q1.elim)
    rename_i b
    obtain ⟨hb, tb, rfl⟩ := r1
    refine hide fun gp gg => ?_; obtain ⟨f, ⟨hn, hq⟩, q1⟩ := q1; refine gg ?_; clear gg gp
    show wpAny _ _ (call (.type "enumerate") [.bytes b.toArray tb]) _ _ _
    refine enum_call fun h' hen hib hsz' keep => ?_
    have hnd : t ≠ u := by
      have := ft.nodup
      unfold cXs at this
      exact (List.pairwise_cons.mp this).1 u (by simp)
    refine ⟨s₁, h₁, ρ₁, b.length, fun i => [.int i, .int (b.toArray.getD i 0).toNat], fun _ => true, f, hr1, st1, hn, fun _ => rfl, ?_, fun cenv i s hi hr lr => notests ⟨rfl, _, hr, .refl⟩, fun cenv i s hi _ hr lr => ?_, ?_⟩
    · have := feeds_enum (w := w) (B := B) (A := A) (ρ := ρ₁) (h := h₁) (s := { s₁ with heap := h' }) (s₁ := s₁) (t := t) (u := u) (pt := pt) (pu := pu) (pq := pq) (kk := kk) R.handled (Nat.succ_ne_self _) hen hib hnd ⟨Nat.le_succ _, Nat.le_refl _⟩ keep (by show _ ≤ h'.objs.size; rw [hsz']; exact Nat.le_add_right _ _) ⟨_, _, rfl⟩
      simpa using this
    · have hi' : i < b.length := hi
      refine elt_of (he _ _ _) h3 R hr lr ?_
      have := hq i b[i] (List.getElem?_eq_getElem hi')
      dsimp only
      rw [show b.toArray.getD i 0 = b[i] by simp [Array.getD_eq_getD_getElem?, hi']]
      exact this
    · rw [List.filter_eq_self.mpr (fun _ _ => rfl)]
      exact q1
end
end Mine
end
section
set_option maxRecDepth 100000
namespace Mine
open PySem PySem.W PyProof.Rows PySem.SeqAt
section
variable {w : World} {B : Heap} {n : Nat}
theorem both {env : Env} {nm : List (Str × NameKind)} {xs : List Str} {e : E} (he : EvalOk w B n env nm xs e) (hp : ∀ x, mE nm xs e x = true → plainTest x = true) : EvalOk w B n env nm xs e ∧ TestOk w B n env nm xs e := ⟨he, test_plain he hp⟩
mutual
theorem exprOk (bs : Base w B) (tb : Tabs B) : ∀ (e : E) {env : Env} {nm : List (Str × NameKind)} {xs : List Str}, EvalOk w B n env nm xs e ∧ TestOk w B n env nm xs e
  | .none => both none_ok fun x hx => by apply inv_none hx; intro _ _ _; rfl
  | .bool b => both bool_ok fun x hx => by apply inv_bool hx; intro _ _ _ _; rfl
  | .int i => both int_ok fun x hx => by apply inv_int hx; intro _ _ _ _; rfl
  | .str m => both str_ok fun x hx => by apply inv_str hx; intro _ _ _ _; rfl
  | .bytes b => both bytes'_ok fun x hx => by apply inv_bytes hx; intro _ _ _ _; rfl
  | .loc i => both loc'_ok fun x hx => by apply inv_loc hx; intro _ _ _; rfl
  | .cst m v => both (cst_ok bs) fun x hx => by
      obtain ⟨p, rfl, _⟩ := gName_of (inv_cst hx).1
      rfl
  | .bin op a b => both (bin_ok (exprOk bs tb a).1 (exprOk bs tb b).1) fun x hx => by apply inv_bin hx; intro _ _ _ _ _; rfl
  | .neg a => both (neg_ok (exprOk bs tb a).1) fun x hx => by apply inv_neg hx; intro _ _ _; rfl
  | .not a => ⟨not_ok (exprOk bs tb a).1, test_not (exprOk bs tb a).2⟩
  | .and es => and_ok (exprsOk bs tb es).2.1
  | .or es => or_ok (exprsOk bs tb es).2.1
  | .cmp op a b => ⟨cmp'_ok tb (exprOk bs tb a).1 (exprOk bs tb b).1, test_cmp tb (exprOk bs tb a).1 (exprOk bs tb b).1⟩
  | .cmp2 o1 o2 a b c => cmp2_ok tb (exprOk bs tb a).1 (exprOk bs tb b).1 (exprOk bs tb c).1
  | .ite t a b => ⟨ite_ok (exprOk bs tb t).2 (exprOk bs tb a).1 (exprOk bs tb b).1, test_ite (exprOk bs tb t).2 (exprOk bs tb a).2 (exprOk bs tb b).2⟩
  | .tup es => both (tup_ok (exprsOk bs tb es).1) fun x hx => by apply inv_tup hx; intro _ _ _ _; rfl
  | .lst es => both (lst_ok (exprsOk bs tb es).1) fun x hx => by apply inv_lst hx; intro _ _ _; rfl
  | .dct ks es => both (dct_ok (exprsOk bs tb es).2.2) fun x hx => by apply inv_dct hx; intro _ _ _ _; rfl
  | .call f es => both (call_ok bs (exprsOk bs tb es).1) fun x hx => by apply inv_call hx; intro _ _ _ _; rfl
  | .mk c es => both (mk_ok bs (exprsOk bs tb es).1) fun x hx => by apply inv_mk hx; intro _ _ _ _; rfl
  | .len a => both (len'_ok bs (exprOk bs tb a).1) fun x hx => by apply inv_len hx; intro _ _ _ _; rfl
  | .mkBytes a => both (mkBytes_ok bs (exprOk bs tb a).1) fun x hx => by apply inv_mkBytes hx; intro _ _ _ _; rfl
  | .mkBarr a => both (mkBarr_ok bs (exprOk bs tb a).1) fun x hx => by apply inv_mkBarr hx; intro _ _ _ _; rfl
  | .absI a => both (absI_ok bs (exprOk bs tb a).1) fun x hx => by apply inv_absI hx; intro _ _ _ _; rfl
  | .toInt a => both (toInt'_ok bs (exprOk bs tb a).1) fun x hx => by apply inv_toInt hx; intro _ _ _ _; rfl
  | .meth o f es => both (meth_ok bs (exprOk bs tb o).1 (exprsOk bs tb es).1) fun x hx => by apply inv_meth hx; intro _ _ _ _ _ _; rfl
  | .append o a => both (append'_ok (exprOk bs tb o).1 (exprOk bs tb a).1) fun x hx => by apply inv_append hx; intro _ _ _ _ _ _; rfl
  | .pop0 o => both (pop0_ok (exprOk bs tb o).1) fun x hx => by apply inv_pop0 hx; intro _ _ _ _ _ _ _ _; rfl
  | .index o a => both (index'_ok tb (exprOk bs tb o).1 (exprOk bs tb a).1) fun x hx => by apply inv_index hx; intro _ _ _ _ _ _; rfl
  | .update o a => both (update'_ok (exprOk bs tb o).1 (exprOk bs tb a).1) fun x hx => by apply inv_update hx; intro _ _ _ _ _ _; rfl
  | .join o a => both (join'_ok (exprOk bs tb o).1 (exprOk bs tb a).1) fun x hx => by apply inv_join hx; intro _ _ _ _ _ _; rfl
  | .attr o m => both (attr'_ok bs (exprOk bs tb o).1) fun x hx => by apply inv_attr hx; intro _ _ _ _; rfl
  | .idx o i => both (idx'_ok tb (exprOk bs tb o).1 (exprOk bs tb i).1) fun x hx => by apply inv_idx hx; intro _ _ _ _; rfl
  | .slcF o a => both (slcF_ok (exprOk bs tb o).1 (exprOk bs tb a).1) fun x hx => by apply inv_slcF hx; intro _ _ _ _ _; rfl
  | .slcT o a => both (slcT_ok (exprOk bs tb o).1 (exprOk bs tb a).1) fun x hx => by apply inv_slcT hx; intro _ _ _ _ _; rfl
  | .slc o a b => both (slc'_ok (exprOk bs tb o).1 (exprOk bs tb a).1 (exprOk bs tb b).1) fun x hx => by apply inv_slc hx; intro _ _ _ _ _ _; rfl
  | .comp fr a b => both (fun x hx A ρ l h s Q R hr lr q => eval_of lr (at_comp (fun _ _ _ => (exprOk bs tb a).1) (exprOk bs tb b).1 hx R hr lr q)) fun x hx => by apply inv_comp hx; intro _ _ _ _ _ _ _; rfl
  | .compIf fr a b c => both (fun x hx A ρ l h s Q R hr lr q => eval_of lr (at_compIf (fun _ _ _ => (exprOk bs tb a).1) (fun _ _ _ => (exprOk bs tb c).2) (exprOk bs tb b).1 hx R hr lr q)) fun x hx => by apply inv_compIf hx; intro _ _ _ _ _ _ _ _; rfl
  | .compEn fr a b => both (fun x hx A ρ l h s Q R hr lr q => eval_of lr (at_compEn bs (fun _ _ _ => (exprOk bs tb a).1) (exprOk bs tb b).1 hx R hr lr q)) fun x hx => by apply inv_compEn hx; intro _ _ _ _ _ _ _ _ _ _ _ _ _; rfl
theorem exprsOk (bs : Base w B) (tb : Tabs B) : ∀ (es : Es) {env : Env} {nm : List (Str × NameKind)} {xs : List Str}, EvalsOk w B n env nm xs es ∧ AndOk w B n env nm xs es ∧ PairsOk w B n env nm xs es
  | .nil => ⟨evals_nil, and_nil, pairs_nil⟩
  | .cons e r => ⟨evals_cons (exprOk bs tb e).1 (exprsOk bs tb r).1, and_cons (exprOk bs tb e).1 (exprOk bs tb e).2 (exprsOk bs tb r).2.1, pairs_cons (exprOk bs tb e).1 (exprsOk bs tb r).2.2⟩
end
end
end Mine
end
section
set_option maxRecDepth 100000
namespace Mine
open PySem PySem.W PyProof.Rows PySem.SeqAt
noncomputable def isOwnK : Option NameKind → Bool
  | some .local | some .cell => true
  | _ => false
section
variable (nm : List (Str × NameKind)) (xs : List Str)
noncomputable def mT0 : T0 → Expr → Bool
  | .loc i, x => on (view5 x) fun z => xs[i]? == some z.1.1 && isOwnK (nm.lookup z.1.1)
  | .attr o m, x => on (view22 x) fun z => z.1.2.1 == m.s && mE nm xs o z.1.1
  | .sub o k, x => on (view23 x) fun z => mE nm xs o z.1.1 && mE nm xs k z.1.2.1
end
/-- behind a store -/
noncomputable def PA (w : World) (B : Heap) (env : Env) (nm : List (Str × NameKind)) (xs : List Str) (ρ : R) (s : Shared) (Q : L → H → Prop) : Unit → Shared → Prop :=
  fun _ s' => ∃ l' h' ρ', Q l' h' ∧ HR w B ρ' h' s' ∧ LR w B ρ' env nm xs l' s' ∧ Go env ρ ρ' s s'
section
variable {w : World} {B : Heap} {A : Around} {ρ ρ₁ ρ₀ : R} {h h₁ : H} {s s₁ s₀ : Shared} {env : Env} {nm : List (Str × NameKind)} {xs : List Str} {l : L} {n : Nat}
theorem t0_ok (bs : Base w B) (tb : Tabs B) {t : T0} {x : Expr} (hx : mT0 nm xs t x = true) {v : V} {val : Value} {Q : L → H → Prop} (R : Room A n) (hr : HR w B ρ h s) (lr : LR w B ρ env nm xs l s) (rv : RV ρ v val)
    (q : wpT0 (G w B n) t v l h Q) : wX (model pw w) A (assign x env val) (PA w B env nm xs ρ s Q) s := by
  cases t with
  | loc i =>
    refine hide fun gp gg => ?_; obtain ⟨⟨⟨y, p⟩, e0⟩, _, hx⟩ := on_inv hx; refine gg ?_; clear gg gp
    · subst e0
      refine and2 hx fun h1 h2 => ?_
      have h1 := beq_iff_eq.mp h1
      rw [arm_assign_Name]
      refine .stand (.lift ?_)
      have fin : ∀ s', (HR w B ρ h s' ∧ LR w B ρ env nm xs (l.set i (some v)) s' ∧ Go env ρ ρ s s') → PA w B env nm xs ρ s Q () s' :=
        fun s' ⟨a, b, c⟩ => ⟨_, _, ρ, t0_loc _ q, a, b, c⟩
      unfold isOwnK at h2
      split at h2
      · rename_i e; exact wpAny_mono (store_local hr lr h1 e rv) (fun _ s' z => fin s' z) fun _ _ e => e
      · rename_i e; exact wpAny_mono (store_cell hr lr h1 e rv) (fun _ s' z => fin s' z) fun _ _ e => e
      · cases h2
  | attr o m =>
    refine hide fun gp gg => ?_; obtain ⟨⟨⟨y1, y2, y3⟩, e0⟩, _, hx⟩ := on_inv hx; refine gg ?_; clear gg gp
    · subst e0
      refine and2 hx fun h1 h2 => ?_
      have e := beq_iff_eq.mp h1; subst e
      rw [arm_assign_Attribute]
      refine WX.hseq ((exprOk bs tb o).1 _ h2 A ρ l h s _ R hr lr q) fun v1 val1 h₁ ρ₁ s₁ q1 r1 hr1 st1 => ?_
      refine .stand (.bind (.holding (.lift (wpAny_mono (setattr_ok bs hr1 r1 (rv.mono st1.sub) q1) (fun _ s₂ yy0 => ?_) fun _ _ e => e))))
      obtain ⟨h₂, q2, hr2, st2⟩ := yy0
      exact .lift (wpAny_release ⟨l, h₂, ρ₁, q2, hr2, (lr.step st1).step st2, .of (st1.then hr1 st2)⟩)
  | sub o k =>
    refine hide fun gp gg => ?_; obtain ⟨⟨⟨y1, y2, y3⟩, e0⟩, _, hx⟩ := on_inv hx; refine gg ?_; clear gg gp
    · subst e0
      refine and2 hx fun h1 h2 => ?_
      rw [arm_assign_Subscript]
      refine WX.hseq ((exprOk bs tb o).1 _ h1 A ρ l h s _ R hr lr q) fun v1 val1 h₁ ρ₁ s₁ q1 r1 hr1 st1 => ?_
      refine WX.hseq ((exprOk bs tb k).1 _ h2 A ρ₁ l h₁ s₁ _ R hr1 (lr.step st1) q1) fun v2 val2 h₂ ρ₂ s₂ q2 r2 hr2 st2 => ?_
      have st12 := st1.then hr1 st2
      refine .stand (.bind (.holding (.lift (wpAny_mono (setitem_ok hr2 (r1.mono st2.sub) r2 (rv.mono st12.sub) q2) (fun _ s₃ yy1 => ?_) fun _ _ e => e))))
      obtain ⟨h₃, q3, hr3, st3⟩ := yy1
      exact .lift (wpAny_release ⟨l, h₃, ρ₂, q3, hr3, (lr.step st12).step st3, .of (st12.then hr2 st3)⟩)
theorem mT0_star {t : T0} {y : Expr} {r : List Expr} (h : mT0 nm xs t y = true) : assignEach (y :: r) env = (false, assign y env) :: assignEach r env := by
  cases y with
  | Starred v p => cases t <;> exact nomatch (show false = true from h)
  | _ => rfl
theorem PA.shift {s' : Shared} {Q : L → H → Prop} (g : Go env ρ ρ₁ s s₁) (hr : HR w B ρ₁ h₁ s₁) (lr : LR w B ρ₁ env nm xs l s₁) (p : PA w B env nm xs ρ₁ s₁ Q () s') : PA w B env nm xs ρ s Q () s' := by
  refine hide fun gp gg => ?_; obtain ⟨l', h', ρ', q, a, b, c⟩ := p; refine gg ?_; clear gg gp
  exact ⟨l', h', ρ', q, a, b, g.trans hr lr c⟩
end
section
variable (nm : List (Str × NameKind)) (xs : List Str)
noncomputable def mT0s : List T0 → List Expr → Bool
  | [], l => l.isEmpty
  | t :: ts, l => match l with | y :: ys => mT0 nm xs t y && mT0s ts ys | [] => false
noncomputable def mT : T → Expr → Bool
  | .one t, x => mT0 nm xs t x
  | .tup ts, x => on (view14 x) fun z => mT0s nm xs ts z.1.1
  | .rev _, _ => false
end
section
variable {w : World} {B : Heap} {A : Around} {env : Env} {nm : List (Str × NameKind)} {xs : List Str} {n : Nat}
theorem t0s_ok (bs : Base w B) (tb : Tabs B) : ∀ (ts : List T0) (ys : List Expr) (vs : List V) (vals : List Value) (ρ : R) (l : L) (h : H) (s : Shared) (Q : L → H → Prop), mT0s nm xs ts ys = true → Room A n → HR w B ρ h s → LR w B ρ env nm xs l s → RVs ρ vs vals →
    wpT0s (G w B n) ts vs l h Q → wX (model pw w) A (assignInOrder ((assignEach ys env).map (·.2)) vals) (PA w B env nm xs ρ s Q) s
  | [], [], [], [], ρ, l, h, s, Q, _, R, hr, lr, _, q => .pure ⟨l, h, ρ, q, hr, lr, .refl⟩
  | t :: ts, y :: ys, v :: vs, val :: vals, ρ, l, h, s, Q, hx, R, hr, lr, rv, q => by
    refine and2 hx fun h1 h2 => ?_
    rw [mT0_star h1]
    show wX _ _ (do holding vals (assign y env val); assignInOrder ((assignEach ys env).map (·.2)) vals) _ _
    refine .bind (.holding ((t0_ok bs tb h1 R hr lr rv.1 q).mono fun _ s₁ zz0 => ?_))
    refine hide fun gp gg => ?_; obtain ⟨l₁, h₁, ρ₁, q1, hr1, lr1, g1⟩ := zz0; refine gg ?_; clear gg gp
    exact (t0s_ok bs tb ts ys vs vals ρ₁ l₁ h₁ s₁ Q h2 R hr1 lr1 (rv.2.mono g1.sub) q1).mono fun _ _ p => p.shift g1 hr1 lr1
  | [], _ :: _, _, _, _, _, _, _, _, hx, _, _, _, _, _ => by cases hx
  | _ :: _, [], _, _, _, _, _, _, _, hx, _, _, _, _, _ => by cases hx
  | [], [], _ :: _, _, _, _, _, _, _, _, _, _, _, _, q => q.elim
  | [], [], [], _ :: _, _, _, _, _, _, _, _, _, _, rv, _ => rv.elim
  | _ :: _, _ :: _, [], _, _, _, _, _, _, _, _, _, _, _, q => q.elim
  | _ :: _, _ :: _, _ :: _, [], _, _, _, _, _, _, _, _, _, rv, _ => rv.elim
theorem each_plain : ∀ (ts : List T0) (ys : List Expr), mT0s nm xs ts ys = true → (assignEach ys env).length = ys.length ∧ (assignEach ys env).findIdx? (·.1) = none ∧ ts.length = ys.length
  | [], [], _ => ⟨rfl, rfl, rfl⟩
  | t :: ts, y :: ys, h => by
    refine and2 h fun h1 h2 => ?_
    obtain ⟨i1, i2, i3⟩ := each_plain ts ys h2
    rw [mT0_star h1]
    exact ⟨by simp [i1], by simp [List.findIdx?_cons, i2], by simp [i3]⟩
  | [], _ :: _, h => by cases h
  | _ :: _, [], h => by cases h
theorem t_ok (bs : Base w B) (tb : Tabs B) {t : T} {x : Expr} (hx : mT nm xs t x = true) {ρ : R} {l : L} {h : H} {s : Shared} {v : V} {val : Value} {Q : L → H → Prop} (R : Room A n) (hr : HR w B ρ h s) (lr : LR w B ρ env nm xs l s) (rv : RV ρ v val)
    (q : wpT (G w B n) t v l h Q) : wX (model pw w) A (assign x env val) (PA w B env nm xs ρ s Q) s := by
  cases t with
  | one t => exact t0_ok bs tb hx R hr lr rv q
  | rev ts => cases hx
  | tup ts =>
    refine hide fun gp gg => ?_; obtain ⟨⟨⟨ys, kk, p⟩, e0⟩, _, hx⟩ := on_inv hx; refine gg ?_; clear gg gp
    · subst e0
      obtain ⟨i1, i2, i3⟩ := each_plain (env := env) ts ys hx
      rw [arm_assign_Tuple]
      dsimp only [wpT] at q
      revert rv; apply vObj q; intro k q rv
      refine oTup q fun vs e q => ?_
      · skip
        obtain ⟨hl, q⟩ := q
        refine hide fun gp gg => ?_; obtain ⟨pp, hp, rfl, z, a, nn, g, rl⟩ := hr.val e rv; refine gg ?_; clear gg gp
        have ha := rl.length
        simp only [Array.length_toList] at ha
        refine .stand ?_
        unfold unpack
        rw [i2, i1, show ys.length = a.size by (first | lia | omega)]
        refine .bind (.holding (.lift (unpackItems_tuple R.handled ⟨_, g, rfl, _, rfl⟩ fun h' he => ?_)))
        have hk : ∀ b o, s.heap.get? b = some o → h'.get? b = some o := fun b o e => he b o (Nat.ne_of_lt (Heap.lt_size e)) e
        have hm := hr.more (tk := s.toks) hk
        have st : Step ρ ρ s { s with heap := h' } := .more hk
        exact (t0s_ok bs tb ts ys vs a.toList ρ l h _ Q hx R hm (lr.step st) rl q).mono fun _ _ p => p.shift (.of st) hm (lr.step st)
end
end Mine
end
section
set_option maxRecDepth 100000
namespace Mine
open PySem PySem.W PyProof.Rows PySem.SeqAt
/- ==== statements without loops ==== -/
noncomputable def notComp : Expr → Bool
  | .ListComp .. | .SetComp .. | .DictComp .. => false
  | _ => true
theorem swaps_no {x : Expr} {t : Option Expr} {k : Nat} {env : Env} (h : notComp x = true) : swapsWith x t k env = pure false := by
  cases x <;> first | rfl | cases h
noncomputable def isStarred : Expr → Bool
  | .Starred .. => true
  | _ => false
noncomputable def swapNames (nm : List (Str × NameKind)) (ts : List Expr) : List Str := ts.filterMap fun
    | .Name id pos => if nm.lookup id == some .local && pos.line == (ts.head?.map (·.pos.line)).getD 0 then some id else none
    | _ => none
noncomputable def swapB (nm : List (Str × NameKind)) (y x : Expr) : Option (Option (List Str)) := match y with
  | .List _ _ => none
  | .Tuple ts _ _ => match x with
    | .Tuple vs _ _ =>
      if !(ts.length == 2 || ts.length == 3) || vs.length != ts.length then some none
      else if vs.any isStarred then some none
      else if (swapNames nm ts).length != ts.length || (swapNames nm ts).eraseDups.length != (swapNames nm ts).length then some none
      else if vs.all (foldedForSure 8) then some none
      else if vs.all (constantsAlone 8) then none
      else some (some (swapNames nm ts))
    | _ => some none
  | _ => some none
theorem ifs5 (b1 b2 b3 b4 b5 : Bool) (N : List Str) (r : Option (List Str)) (u : Sem Unit) (h : (if b1 then some none else if b2 then some none else if b3 then some none else if b4 then some none else if b5 then none else some (some N)) = some r) :
    ((do
      if b1 then return none
      if b2 then return none
      if b3 then return none
      if b4 then return none
      if b5 then u
      return some N) : Sem (Option (List Str))) = pure r := by
  cases b1 with
  | true => exact congrArg pure (Option.some.inj h)
  | false =>
    cases b2 with
    | true => exact congrArg pure (Option.some.inj h)
    | false =>
      cases b3 with
      | true => exact congrArg pure (Option.some.inj h)
      | false =>
        cases b4 with
        | true => exact congrArg pure (Option.some.inj h)
        | false =>
          cases b5 with
          | true => cases h
          | false => exact congrArg pure (Option.some.inj h)
theorem swap_ok {env : Env} {nm : List (Str × NameKind)} {y x : Expr} {r : Option (List Str)} (hk : env.scope.kind = .function) (hn : env.scope.names = nm) (h : swapB nm y x = some r) : swappedStores [y] x env = pure r := by
  subst hn
  have hb : env.blockKind = .function := by unfold Env.blockKind; rw [hk]; rfl
  cases y with
  | List _ _ => cases h
  | Tuple ts k p =>
    cases x with
    | Tuple vs k2 p2 =>
      have e1 : ((!(ts.length == 2 || ts.length == 3) || vs.length != ts.length) || env.blockKind != .function) = (!(ts.length == 2 || ts.length == 3) || vs.length != ts.length) := by rw [hb]; exact Bool.or_false _
      have z := ifs5 (!(ts.length == 2 || ts.length == 3) || vs.length != ts.length) (vs.any isStarred) ((swapNames env.scope.names ts).length != ts.length || (swapNames env.scope.names ts).eraseDups.length != (swapNames env.scope.names ts).length) (vs.all (foldedForSure 8)) (vs.all (constantsAlone 8)) (swapNames env.scope.names ts) r (unsupported "assign.tuple-of-constant-expressions:order-of-the-stores") h
      rw [← e1] at z
      exact z
    | _ => exact congrArg pure (Option.some.inj h)
  | _ => exact congrArg pure (Option.some.inj h)
section
variable (nm : List (Str × NameKind)) (xs : List Str)
noncomputable def mNames : List T0 → List Str → Bool
  | [], [] => true
  | .loc i :: ts, y :: ys => xs[i]? == some y && (nm.lookup y == some .local && mNames ts ys)
  | _, _ => false
noncomputable def swapsC (y v : Expr) : Bool := match v with
  | .ListComp _ _ sc vp => match y with
    | .Name yn py => nm.lookup yn == some .local && (py.line == vp.line && !(sc.names.any fun (n, k) => n == yn && (k == .local || k == .cell)))
    | _ => false
  | _ => false
set_option backward.match.sparseCases false in
noncomputable def isComp : E → Bool
  | .comp _ _ _ | .compIf _ _ _ _ | .compEn _ _ _ => true
  | _ => false
noncomputable def mIt : It → Expr → Bool
  | .e e, x => mE nm xs e x
  | .range1 a, x => on (view17 x) fun z => gName nm "range" z.1.1 && mEs nm xs (.cons a .nil) z.1.2.1
  | .range2 a b, x => on (view17 x) fun z => gName nm "range" z.1.1 && mEs nm xs (.cons a (.cons b .nil)) z.1.2.1
  | .range3 a b, x => on (view17 x) fun z => gName nm "range" z.1.1 && mEs nm xs (.cons a (.cons b (.cons (.neg (.int 1)) .nil))) z.1.2.1
noncomputable def sExpr (x : Stmt) : Option {t : Expr × Pos // x = .Expr t.1 t.2} := match x with | .Expr a b => some ⟨(a, b), rfl⟩ | _ => none
noncomputable def sAssign (x : Stmt) : Option {t : Expr × Expr × Pos // x = .Assign [t.1] t.2.1 t.2.2} := match x with | .Assign [a] b c => some ⟨(a, b, c), rfl⟩ | _ => none
noncomputable def sAug (x : Stmt) : Option {t : Expr × Str × Pos × Operator × Expr × Pos // x = .AugAssign (.Attribute t.1 t.2.1 t.2.2.1) t.2.2.2.1 t.2.2.2.2.1 t.2.2.2.2.2} := match x with | .AugAssign (.Attribute a b c) d e f => some ⟨(a, b, c, d, e, f), rfl⟩ | _ => none
noncomputable def sIf (x : Stmt) : Option {t : Expr × List Stmt × List Stmt × Pos // x = .If t.1 t.2.1 t.2.2.1 t.2.2.2} := match x with | .If a b c d => some ⟨(a, b, c, d), rfl⟩ | _ => none
noncomputable def sWhile (x : Stmt) : Option {t : Expr × List Stmt × Pos // x = .While t.1 t.2.1 [] t.2.2} := match x with | .While a b [] d => some ⟨(a, b, d), rfl⟩ | _ => none
noncomputable def sFor (x : Stmt) : Option {t : Str × Pos × Expr × List Stmt × Pos // x = .For (.Name t.1 t.2.1) t.2.2.1 t.2.2.2.1 [] t.2.2.2.2} := match x with | .For (.Name a b) c d [] e => some ⟨(a, b, c, d, e), rfl⟩ | _ => none
noncomputable def sRet (x : Stmt) : Option {t : Expr × Pos // x = .Return (some t.1) t.2} := match x with | .Return (some a) b => some ⟨(a, b), rfl⟩ | _ => none
noncomputable def sBrk (x : Stmt) : Option {t : Pos // x = .Break t} := match x with | .Break a => some ⟨a, rfl⟩ | _ => none
noncomputable def sTry (x : Stmt) : Option {t : List Stmt × _ × Pos // x = .Try t.1 t.2.1 [] [] t.2.2} := match x with | .Try a b [] [] c => some ⟨(a, b, c), rfl⟩ | _ => none
set_option backward.match.sparseCases false in
noncomputable def asgFit (nm : List (Str × NameKind)) (xs : List Str) (t : T) (e : E) (y v : Expr) : Bool := mE nm xs e v && ((notComp v && (match swapB nm y v with
      | some .none => mT nm xs t y
      | some (some names) => (match t with | .rev ts => mNames nm xs ts.reverse names.reverse && ts.length == names.length | _ => false)
      | .none => false)) || (isComp e && (swapsC nm y v && (match t with | .one (.loc i) => (match y with | .Name yn _ => xs[i]? == some yn | _ => false) | _ => false))))
mutual
noncomputable def mS : S → Stmt → Bool
  | .expr e, x => on (sExpr x) fun z => notComp z.1.1 && mE nm xs e z.1.1
  | .asg t e, x => on (sAssign x) fun z => asgFit nm xs t e z.1.1 z.1.2.1
  | .aug o n op e, x => on (sAug x) fun z => z.1.2.1 == n.s && (op == .Add && (z.1.2.2.2.1 == .Add && (mE nm xs o z.1.1 && mE nm xs e z.1.2.2.2.2.1)))
  | .ite t a b, x => on (sIf x) fun z => mE nm xs t z.1.1 && (mSs a z.1.2.1 && mSs b z.1.2.2.1)
  | .while t b, x => on (sWhile x) fun z => mE nm xs t z.1.1 && mSs b z.1.2.1
  | .for i it b, x => on (sFor x) fun z => xs[i]? == some z.1.1 && (nm.lookup z.1.1 == some .local && (mIt nm xs it z.1.2.2.1 && mSs b z.1.2.2.2.1))
  | .ret e, x => on (sRet x) fun z => mE nm xs e z.1.1
  | .brk, x => on (sBrk x) fun _ => true
  | .try_ b, x => on (sTry x) fun z => mSs b z.1.1
  | .raise, _ => true
noncomputable def mSs : Ss → List Stmt → Bool
  | .nil, l => l.isEmpty
  | .cons s r, l => match l with | x :: ys => mS s x && mSs r ys | [] => false
end
end
section
variable {nm : List (Str × NameKind)} {xs : List Str} {x : Stmt}
theorem invS_expr {e} {P : Stmt → Prop} (h : mS nm xs (.expr e) x = true) (k : ∀ y1 y2, (notComp y1 && mE nm xs e y1) = true → P (.Expr y1 y2)) : P x :=
  on_out h fun z h => Eq.substr (p := P) z.2 (k z.1.1 z.1.2 h)
theorem invS_asg {t e} {P : Stmt → Prop} (h : mS nm xs (.asg t e) x = true) (k : ∀ y1 y2 y3, (asgFit nm xs t e y1 y2) = true → P (.Assign [y1] y2 y3)) : P x :=
  on_out h fun z h => Eq.substr (p := P) z.2 (k z.1.1 z.1.2.1 z.1.2.2 h)
theorem invS_aug {o n op e} {P : Stmt → Prop} (h : mS nm xs (.aug o n op e) x = true) (k : ∀ y1 y2 y3 y4 y5 y6, (y2 == n.s && (op == .Add && (y4 == .Add && (mE nm xs o y1 && mE nm xs e y5)))) = true → P (.AugAssign (.Attribute y1 y2 y3) y4 y5 y6)) : P x :=
  on_out h fun z h => Eq.substr (p := P) z.2 (k z.1.1 z.1.2.1 z.1.2.2.1 z.1.2.2.2.1 z.1.2.2.2.2.1 z.1.2.2.2.2.2 h)
theorem invS_ite {t a b} {P : Stmt → Prop} (h : mS nm xs (.ite t a b) x = true) (k : ∀ y1 y2 y3 y4, (mE nm xs t y1 && (mSs nm xs a y2 && mSs nm xs b y3)) = true → P (.If y1 y2 y3 y4)) : P x :=
  on_out h fun z h => Eq.substr (p := P) z.2 (k z.1.1 z.1.2.1 z.1.2.2.1 z.1.2.2.2 h)
theorem invS_while {t b} {P : Stmt → Prop} (h : mS nm xs (.while t b) x = true) (k : ∀ y1 y2 y3, (mE nm xs t y1 && mSs nm xs b y2) = true → P (.While y1 y2 [] y3)) : P x :=
  on_out h fun z h => Eq.substr (p := P) z.2 (k z.1.1 z.1.2.1 z.1.2.2 h)
theorem invS_for {i it b} {P : Stmt → Prop} (h : mS nm xs (.for i it b) x = true) (k : ∀ y1 y2 y3 y4 y5, (xs[i]? == some y1 && (nm.lookup y1 == some .local && (mIt nm xs it y3 && mSs nm xs b y4))) = true → P (.For (.Name y1 y2) y3 y4 [] y5)) : P x :=
  on_out h fun z h => Eq.substr (p := P) z.2 (k z.1.1 z.1.2.1 z.1.2.2.1 z.1.2.2.2.1 z.1.2.2.2.2 h)
theorem invS_ret {e} {P : Stmt → Prop} (h : mS nm xs (.ret e) x = true) (k : ∀ y1 y2, (mE nm xs e y1) = true → P (.Return (some y1) y2)) : P x :=
  on_out h fun z h => Eq.substr (p := P) z.2 (k z.1.1 z.1.2 h)
theorem invS_brk {P : Stmt → Prop} (h : mS nm xs .brk x = true) (k : ∀ y1, (true) = true → P (.Break y1)) : P x :=
  on_out h fun z h => Eq.substr (p := P) z.2 (k z.1 h)
theorem invS_try_ {b} {P : Stmt → Prop} (h : mS nm xs (.try_ b) x = true) (k : ∀ y1 y2 y3, (mSs nm xs b y1) = true → P (.Try y1 y2 [] [] y3)) : P x :=
  on_out h fun z h => Eq.substr (p := P) z.2 (k z.1.1 z.1.2.1 z.1.2.2 h)
end
noncomputable def PF (w : World) (B : Heap) (env : Env) (nm : List (Str × NameKind)) (xs : List Str) (ρ : R) (s : Shared) (Q : K2) : Flow → Shared → Prop :=
  fun fl s' => ∃ f l' h' ρ', Q f l' h' ∧ FlR ρ' f fl ∧ HR w B ρ' h' s' ∧ LR w B ρ' env nm xs l' s' ∧ Go env ρ ρ' s s'
section
variable {w : World} {B : Heap} {A : Around} {ρ ρ₁ ρ₂ ρ₀ : R} {h h₁ : H} {s s₁ s₂ s₀ : Shared} {env : Env} {nm : List (Str × NameKind)} {xs : List Str} {l l₁ : L} {n : Nat}
theorem PF.shift {Q : K2} {f : Flow} {s' : Shared} (g : Go env ρ ρ₁ s s₁) (hr : HR w B ρ₁ h₁ s₁) (lr : LR w B ρ₁ env nm xs l s₁) (p : PF w B env nm xs ρ₁ s₁ Q f s') : PF w B env nm xs ρ s Q f s' := by
  refine hide fun gp gg => ?_; obtain ⟨fl, l', h', ρ', q, a, b, c, d⟩ := p; refine gg ?_; clear gg gp
  exact ⟨fl, l', h', ρ', q, a, b, c, g.trans hr lr d⟩
noncomputable def ExecOk (w : World) (B : Heap) (n : Nat) (env : Env) (nm : List (Str × NameKind)) (xs : List Str) (t : S) : Prop :=
  ∀ x : Stmt, mS nm xs t x = true → ∀ (A : Around) (ρ : R) (l : L) (h : H) (s : Shared) (Q : K2), Room A n → HR w B ρ h s → LR w B ρ env nm xs l s → wpS (G w B n) t l h Q →
    wX (model pw w) A (exec x env) (PF w B env nm xs ρ s Q) s
noncomputable def ExecsOk (w : World) (B : Heap) (n : Nat) (env : Env) (nm : List (Str × NameKind)) (xs : List Str) (t : Ss) : Prop :=
  ∀ x : List Stmt, mSs nm xs t x = true → ∀ (A : Around) (ρ : R) (l : L) (h : H) (s : Shared) (Q : K2), Room A n → HR w B ρ h s → LR w B ρ env nm xs l s → wpSs (G w B n) t l h Q →
    wX (model pw w) A (execs x env) (PF w B env nm xs ρ s Q) s
theorem bind_ok {i : Nat} {y : Str} {v : V} {val : Value} {Q : L → H → Prop} (hr : HR w B ρ h s) (lr : LR w B ρ env nm xs l s) (h1 : xs[i]? = some y) (h2 : nm.lookup y = some .local) (rv : RV ρ v val) (q : Q (l.set i (some v)) h) :
    wX (model pw w) A (bindName env y val) (PA w B env nm xs ρ s Q) s :=
  .lift (wpAny_mono (store_local hr lr h1 h2 rv) (fun _ s' ⟨a, b, c⟩ => ⟨_, _, ρ, q, a, b, c⟩) fun _ _ e => e)
theorem names_ok : ∀ (ts : List T0) (ys : List Str) (vs : List V) (vals : List Value) (ρ : R) (l : L) (h : H) (s : Shared) (Q : L → H → Prop), mNames nm xs ts ys = true → HR w B ρ h s → LR w B ρ env nm xs l s → RVs ρ vs vals →
    wpT0s (G w B n) ts vs l h Q → wX (model pw w) A (assignInOrder (ys.map fun y => bindName env y) vals) (PA w B env nm xs ρ s Q) s
  | [], [], [], [], ρ, l, h, s, Q, _, hr, lr, _, q => .pure ⟨l, h, ρ, q, hr, lr, .refl⟩
  | .loc i :: ts, y :: ys, v :: vs, val :: vals, ρ, l, h, s, Q, hx, hr, lr, rv, q => by
    refine and3 hx fun h1 h3 h4 => ?_
    show wX _ _ (do holding vals (bindName env y val); assignInOrder (ys.map fun y => bindName env y) vals) _ _
    refine .bind (.holding ((bind_ok (Q := fun l₁ h₁ => wpT0s (G w B n) ts vs l₁ h₁ Q) hr lr (beq_iff_eq.mp h1) (beq_iff_eq.mp h3) rv.1 (t0_loc _ q)).mono fun _ s₁ zz0 => ?_))
    refine hide fun gp gg => ?_; obtain ⟨l₁, h₁, ρ₁, q1, hr1, lr1, g1⟩ := zz0; refine gg ?_; clear gg gp
    exact (names_ok ts ys vs vals ρ₁ l₁ h₁ s₁ Q h4 hr1 lr1 (rv.2.mono g1.sub) q1).mono fun _ _ p => p.shift g1 hr1 lr1
  | [], _ :: _, _, _, _, _, _, _, _, hx, _, _, _, _ => by cases hx
  | t :: _, [], _, _, _, _, _, _, _, hx, _, _, _, _ => by cases t <;> cases hx
  | [], [], _ :: _, _, _, _, _, _, _, _, _, _, _, q => q.elim
  | [], [], [], _ :: _, _, _, _, _, _, _, _, _, rv, _ => rv.elim
  | .attr _ _ :: _, _ :: _, _, _, _, _, _, _, _, hx, _, _, _, _ => by cases hx
  | .sub _ _ :: _, _ :: _, _, _, _, _, _, _, _, hx, _, _, _, _ => by cases hx
  | .loc _ :: _, _ :: _, [], _, _, _, _, _, _, _, _, _, _, q => q.elim
  | .loc _ :: _, _ :: _, _ :: _, [], _, _, _, _, _, _, _, _, rv, _ => rv.elim
theorem RVs.reverse {ρ : R} : ∀ {xs : List V} {vs : List Value}, RVs ρ xs vs → RVs ρ xs.reverse vs.reverse
  | [], [], _ => trivial
  | x :: xs, v :: vs, h => by
    rw [List.reverse_cons, List.reverse_cons]
    exact (RVs.reverse h.2).append ⟨h.1, trivial⟩
  | [], _ :: _, h => h.elim
  | _ :: _, [], h => h.elim
theorem mT_star {t : T} {y : Expr} {r : List Expr} (h : mT nm xs t y = true) : assignEach (y :: r) env = (false, assign y env) :: assignEach r env := by
  cases y with
  | Starred v p =>
    cases t with
    | one t => cases t <;> exact nomatch (show false = true from h)
    | tup ts => exact nomatch (show false = true from h)
    | rev ts => cases h
  | _ => rfl
theorem expr_ok (bs : Base w B) (tb : Tabs B) {e : E} : ExecOk w B n env nm xs (.expr e) := by
  intro x hx A ρ l h s Q R hr lr q
  apply invS_expr hx; intro _ _ hx
  · rename_i y p
    refine and2 hx fun h1 h2 => ?_
    rw [arm_exec_Expr]
    refine .stand ?_
    refine .no (by unfold interactive; rw [lr.kind, show (ScopeKind.function == ScopeKind.module) = false from rfl, Bool.false_and]; decide) ?_
    rw [swaps_no h1]
    refine .bind (.pure (.no (by decide) ?_))
    refine WX.seq ((exprOk bs tb e).1 _ h2 A ρ l h s _ R hr lr q) fun v val h₁ ρ₁ s₁ q1 r1 hr1 st1 => ?_
    obtain ⟨rfl, q1⟩ := q1
    cases r1
    rw [dropValue_plain (by intro a e; cases e)]
    exact .pure ⟨.next, l, h₁, ρ₁, q1, rfl, hr1, lr.step st1, .of st1⟩
theorem ret_ok (bs : Base w B) (tb : Tabs B) {e : E} : ExecOk w B n env nm xs (.ret e) := by
  intro x hx A ρ l h s Q R hr lr q
  apply invS_ret hx; intro _ _ hx
  · rename_i y p
    rw [arm_exec_Return]
    refine .stand ?_
    refine WX.seq (Q' := PF w B env nm xs ρ s Q) ((exprOk bs tb e).1 _ hx A ρ l h s _ R hr lr q) fun v val h₁ ρ₁ s₁ q1 r1 hr1 st1 => ?_
    exact .pure ⟨.ret v, l, h₁, ρ₁, q1, ⟨val, rfl, r1⟩, hr1, lr.step st1, .of st1⟩
theorem brk_ok : ExecOk w B n env nm xs .brk := by
  intro x hx A ρ l h s Q R hr lr q
  apply invS_brk hx; intro _ hx
  · rw [arm_exec_Break]
    exact .stand (.pure ⟨.brk, l, h, ρ, q, rfl, hr, lr, .refl⟩)
theorem raise_ok : ExecOk w B n env nm xs .raise := by
  intro x hx A ρ l h s Q R hr lr q
  exact False.elim q
theorem swapsC_ok (lr : LR w B ρ env nm xs l s) {y v : Expr} {k : Nat} (h : swapsC nm y v = true) : swapsWith v (some y) k env = pure true ∧ ∃ yn py, y = .Name yn py ∧ nm.lookup yn = some .local := by
  unfold swapsC at h
  split at h
  · rename_i e g sc vp
    split at h
    · rename_i yn py
      refine and3 h fun h1 h3 h4 => ?_
      refine ⟨?_, yn, py, rfl, beq_iff_eq.mp h1⟩
      have hb : env.blockKind = .function := by unfold Env.blockKind; rw [lr.kind]; rfl
      show pure (env.blockKind == .function && env.kindOf yn == some .local && py.line == vp.line && !(sc.names.any fun (n, k) => n == yn && (k == .local || k == .cell))) = _
      unfold Env.kindOf
      rw [hb, lr.names, h1, h3, h4]
      rfl
    · cases h
  · cases h
theorem CompAt.mono {fr : List Nat} {x : Expr} {Q Q' : K1} (c : CompAt w B A env nm xs fr l ρ s x Q) (k : ∀ v h, Q v h → Q' v h) : CompAt w B A env nm xs fr l ρ s x Q' := by
  refine hide fun gp gg => ?_; obtain ⟨elt', target, iter, ifs, sc, pos, ts, rfl, ft, hfold, hX⟩ := c; refine gg ?_; clear gg gp
  refine ⟨elt', target, iter, ifs, sc, pos, ts, rfl, ft, hfold, hX.mono fun xv s' zz0 => ?_⟩
  refine hide fun gp gg => ?_; obtain ⟨s₁, h₁, ρ₁, n, vals, p, f, hr1, st1, hn, hlen, fd, tests, elts, q⟩ := zz0; refine gg ?_; clear gg gp
  exact ⟨s₁, h₁, ρ₁, n, vals, p, f, hr1, st1, hn, hlen, fd, tests, elts, k _ _ q⟩
theorem compAt_ok (bs : Base w B) (tb : Tabs B) {e : E} (hc : isComp e = true) {x : Expr} (hx : mE nm xs e x = true) {Q : K1} (R : Room A n) (hr : HR w B ρ h s) (lr : LR w B ρ env nm xs l s) (q : wpE (G w B n) e l h Q) : ∃ fr, CompAt w B A env nm xs fr l ρ s x Q := by
  cases e <;> (try cases hc)
  · exact ⟨_, at_comp (fun _ _ _ => (exprOk bs tb _).1) (exprOk bs tb _).1 hx R hr lr q⟩
  · exact ⟨_, at_compIf (fun _ _ _ => (exprOk bs tb _).1) (fun _ _ _ => (exprOk bs tb _).2) (exprOk bs tb _).1 hx R hr lr q⟩
  · exact ⟨_, at_compEn bs (fun _ _ _ => (exprOk bs tb _).1) (exprOk bs tb _).1 hx R hr lr q⟩
theorem asg_ok (bs : Base w B) (tb : Tabs B) {t : T} {e : E} : ExecOk w B n env nm xs (.asg t e) := by
  intro x hx A ρ l h s Q R hr lr q
  apply invS_asg hx; intro _ _ _ hx
  unfold asgFit at hx
  · rename_i y v p
    have h3 := (Bool.and_eq_true_iff.mp hx).1
    replace hx := (Bool.and_eq_true_iff.mp hx).2
    replace hx := Bool.or_eq_true_iff.mp hx
    rcases hx with hx | hx
    case inr =>
      refine and3 hx fun h1 h4 h5 => ?_
      refine hide fun gp gg => ?_; obtain ⟨hs, yn, py, rfl, hy⟩ := swapsC_ok (k := p.line) lr h4; refine gg ?_; clear gg gp
      split at h5
      · rename_i i
        dsimp only at h5
        dsimp only [xB] at q
        obtain ⟨fr, ca⟩ := compAt_ok bs tb h1 h3 R hr lr q
        rw [arm_exec_Assign]
        refine .stand ?_
        show wX _ _ (do if ← swapsWith v (some (.Name yn py)) p.line env then _ else _) _ _
        rw [hs]
        refine .bind (.pure (.yes rfl ?_))
        refine .bind ((use_of (Q2 := fun l2 h2 => Q .next l2 h2) hr lr (beq_iff_eq.mp h5) hy (ca.mono fun v h q => t0_loc (G w B n) q)).mono fun _ s' zz0 => ?_)
        refine hide fun gp gg => ?_; obtain ⟨l', h', ρ', q', a, b, c⟩ := zz0; refine gg ?_; clear gg gp
        exact .pure ⟨.next, l', h', ρ', q', rfl, a, b, c⟩
      · cases h5
    have h1 := (Bool.and_eq_true_iff.mp hx).1
    have h4 := (Bool.and_eq_true_iff.mp hx).2
    clear hx
    rw [arm_exec_Assign]
    refine .stand ?_
    show wX _ _ (do if ← swapsWith v (some y) p.line env then _ else _) _ _
    rw [swaps_no h1]
    refine .bind (.pure (.no (by decide) ?_))
    refine WX.seq ((exprOk bs tb e).1 _ h3 A ρ l h s _ R hr lr q) fun v1 val h₁ ρ₁ s₁ q1 r1 hr1 st1 => ?_
    have lr1 := lr.step st1
    split at h4
    · rename_i hs
      rw [swap_ok lr.kind lr.names hs]
      refine .bind (.pure ?_)
      rw [mT_star h4]
      refine .bind (m := assign y env val) ((t_ok bs tb h4 R hr1 lr1 r1 q1).mono fun _ s₂ zz0 => ?_)
      refine hide fun gp gg => ?_; obtain ⟨l₂, h₂, ρ₂, q2, hr2, lr2, g2⟩ := zz0; refine gg ?_; clear gg gp
      exact .pure ⟨.next, l₂, h₂, ρ₂, q2, rfl, hr2, lr2, (Go.of st1).trans hr1 lr1 g2⟩
    · rename_i names hs
      rw [swap_ok lr.kind lr.names hs]
      refine .bind (.pure ?_)
      split at h4
      · rename_i ts
        refine and2 h4 fun h5 h6 => ?_
        dsimp only [wpT] at q1
        revert r1; apply vObj q1; intro k q1 r1
        refine oTup q1 fun vs e q1 => ?_
        · skip
          obtain ⟨hl, q1⟩ := q1
          refine hide fun gp gg => ?_; obtain ⟨pp, hp, rfl, z, a, nn, g, rl⟩ := hr1.val e r1; refine gg ?_; clear gg gp
          have ha := rl.length
          simp only [Array.length_toList] at ha
          show wX _ _ (do rule "assign.swapped-stores"; let items ← unpackItems (.ref pp.1) names.length none; assignInOrder (names.reverse.map fun n => bindName env n) items.reverse; pure Flow.next) _ _
          refine .bind (.lift (wpAny_rule ?_))
          have hlen : names.length = a.size := by have := beq_iff_eq.mp h6; (first | lia | omega)
          rw [hlen]
          refine .bind (.lift (unpackItems_tuple R.handled ⟨_, g, rfl, _, rfl⟩ fun h' he => ?_))
          have hk : ∀ b o, s₁.heap.get? b = some o → h'.get? b = some o := fun b o e => he b o (Nat.ne_of_lt (Heap.lt_size e)) e
          have hm := hr1.more (tk := s₁.toks) hk
          have st : Step ρ₁ ρ₁ s₁ { s₁ with heap := h' } := .more hk
          refine .bind ((names_ok (n := n) ts.reverse names.reverse vs.reverse a.toList.reverse ρ₁ l h₁ _ _ h5 hm (lr1.step st) rl.reverse q1).mono fun _ s₂ zz0 => ?_)
          refine hide fun gp gg => ?_; obtain ⟨l₂, h₂, ρ₂, q2, hr2, lr2, g2⟩ := zz0; refine gg ?_; clear gg gp
          exact .pure ⟨.next, l₂, h₂, ρ₂, q2, rfl, hr2, lr2, (Go.of (st1.then hr1 st)).trans hm (lr1.step st) g2⟩
      · cases h4
    · cases h4
theorem aug_ok (bs : Base w B) (tb : Tabs B) {o : E} {m : N} {op : Operator} {e : E} : ExecOk w B n env nm xs (.aug o m op e) := by
  intro x hx A ρ l h s Q R hr lr q
  apply invS_aug hx; intro _ _ _ _ _ _ hx
  · rename_i o' y tpos op' v p
    refine and5 hx fun h1 h3 h5 h7 h8 => ?_
    have e1 := beq_iff_eq.mp h1; subst e1
    have e2 := beq_iff_eq.mp h3; subst e2
    have e3 := beq_iff_eq.mp h5; subst e3
    rw [arm_exec_AugAssign_2]
    refine .stand ?_
    refine WX.seq ((exprOk bs tb o).1 _ h7 A ρ l h s _ R hr lr q) fun v1 val1 h₁ ρ₁ s₁ q1 r1 hr1 st1 => ?_
    refine .bind (.holding (.stand ?_))
    refine .bind (.lift (wpAny_mono (attr_ok bs hr1 r1 q1) (fun val2 s₂ yy0 => ?_) fun _ _ e => e))
    obtain ⟨v2, h₂, ρ₂, q2, r2, hr2, st2⟩ := yy0
    have st12 := st1.then hr1 st2
    refine WX.hseq ((exprOk bs tb e).1 _ h8 A ρ₂ l h₂ s₂ _ R hr2 (lr.step st12) q2) fun v3 val3 h₃ ρ₃ s₃ q3 r3 hr3 st3 => ?_
    obtain ⟨q30, q3⟩ := q3
    have st123 := st12.then hr2 st3
    have r2' := r2.mono st3.sub
    cases v2 <;> (try exact q30.elim)
    obtain ⟨t2, rfl⟩ := r2'
    cases v3 <;> (try exact q3.elim)
    obtain ⟨t3, rfl⟩ := r3
    refine .stand (.operate (.lift (wpAny_iadd_int ?_)))
    refine .stand (.bind (.holding (.lift (wpAny_mono (setattr_ok bs (hr3.toks _) ((r1.mono st2.sub).mono st3.sub) (show RV ρ₃ (.int _) _ from ⟨_, rfl⟩) q3) (fun _ s₄ yy1 => ?_) fun _ _ e => e))))
    obtain ⟨h₄, q4, hr4, st4⟩ := yy1
    refine .bind (.lift (wpAny_release ?_))
    refine .pure ?_
    have st5 := (st123.then hr3 .toks).then (hr3.toks _) st4
    exact ⟨.next, l, h₄, ρ₃, q4, rfl, hr4, lr.step st5, .of st5⟩
theorem ite'_ok (bs : Base w B) (tb : Tabs B) {t : E} {a b : Ss} (ha : ExecsOk w B n env nm xs a) (hb : ExecsOk w B n env nm xs b) : ExecOk w B n env nm xs (.ite t a b) := by
  intro x hx A ρ l h s Q R hr lr q
  apply invS_ite hx; intro _ _ _ _ hx
  · refine and3 hx fun h1 h3 h4 => ?_
    rw [arm_exec_If]
    refine .stand (.bind (((exprOk bs tb t).2 _ h1 A ρ l h s _ R hr lr (fun v h' q' => ?_) q).mono fun c s₁ ⟨h₁, ρ₁, q1, hr1, st1⟩ => ?_))
    · cases v <;> (try exact q'.elim)
      exact ⟨_, rfl⟩
    · cases c with
      | true => exact .yes rfl ((ha _ h3 A ρ₁ l h₁ s₁ _ R hr1 (lr.step st1) q1).mono fun _ _ p => p.shift (.of st1) hr1 (lr.step st1))
      | false => exact .no (by decide) ((hb _ h4 A ρ₁ l h₁ s₁ _ R hr1 (lr.step st1) q1).mono fun _ _ p => p.shift (.of st1) hr1 (lr.step st1))
theorem try_ok {b : Ss} (hb : ExecsOk w B n env nm xs b) : ExecOk w B n env nm xs (.try_ b) := by
  intro x hx A ρ l h s Q R hr lr q
  apply invS_try_ hx; intro _ _ _ hx
  · rw [arm_exec_Try]
    refine .stand ?_
    unfold tryStmt
    refine .yes rfl ?_
    refine .bind (.attempt ((hb _ hx A ρ l h s _ R hr lr q).mono fun f s₁ p => ?_))
    cases f with
    | next => exact .pure p
    | _ => exact .pure p
theorem nil_ok : ExecsOk w B n env nm xs .nil := by
  intro x hx A ρ l h s Q R hr lr q
  cases x with
  | nil => exact .pure ⟨.next, l, h, ρ, q, rfl, hr, lr, .refl⟩
  | cons _ _ => exact nomatch (show false = true from hx)
theorem cons_ok {a : S} {r : Ss} (ha : ExecOk w B n env nm xs a) (hrest : ExecsOk w B n env nm xs r) : ExecsOk w B n env nm xs (.cons a r) := by
  intro x hx A ρ l h s Q R hr lr q
  cases x with
  | nil => exact nomatch (show false = true from hx)
  | cons y ys =>
    refine and2 hx fun h1 h2 => ?_
    rw [arm_execs_cons]
    refine .bind ((ha _ h1 A ρ l h s _ R hr lr q).mono fun f s₁ zz0 => ?_)
    refine hide fun gp gg => ?_; obtain ⟨fl, l₁, h₁, ρ₁, q1, rf, hr1, lr1, g1⟩ := zz0; refine gg ?_; clear gg gp
    cases fl with
    | next =>
      cases rf
      exact (hrest _ h2 A ρ₁ l₁ h₁ s₁ _ R hr1 lr1 q1).mono fun _ _ p => p.shift g1 hr1 lr1
    | brk =>
      cases rf
      exact .pure ⟨.brk, l₁, h₁, ρ₁, q1, rfl, hr1, lr1, g1⟩
    | ret v =>
      obtain ⟨val, rfl, rv⟩ := rf
      exact .pure ⟨.ret v, l₁, h₁, ρ₁, q1, ⟨val, rfl, rv⟩, hr1, lr1, g1⟩
end
end Mine
end
section
set_option maxRecDepth 100000
namespace Mine
open PySem PySem.W PyProof.Rows PySem.SeqAt
/- ==== loops ==== -/
section
variable {w : World} {B : Heap} {A : Around} {ρ ρ₁ ρ₂ ρ₀ : R} {h h₁ : H} {s s₁ s₂ s₀ : Shared} {env : Env} {nm : List (Str × NameKind)} {xs : List Str} {l l₁ : L} {n : Nat}
theorem runOwn_X {c : Code} {Q : Flow → Shared → Prop} (h : cX (model pw w) A c (fun r s' => ∃ v, r = .ok v ∧ Q v s') s) : wX (model pw w) A (runOwn c env) Q s := .onRaise (.run h)
theorem while_ok (bs : Base w B) (tb : Tabs B) {t : E} {b : Ss} (hb : ExecsOk w B n env nm xs b) : ExecOk w B n env nm xs (.while t b) := by
  intro x hx A ρ l h s Q R hr lr q
  apply invS_while hx; intro _ _ _ hx
  · rename_i t' b' p
    refine and2 hx fun h1 h2 => ?_
    rw [arm_exec_While]
    refine .stand (runOwn_X ?_)
    dsimp only [xE] at q
    refine hide fun gp gg => ?_; obtain ⟨I, ⟨n0, hI⟩, turn⟩ := q; refine gg ?_; clear gg gp
    have main : ∀ k l₁ h₁ ρ₁ s₁, I k l₁ h₁ → HR w B ρ₁ h₁ s₁ → LR w B ρ₁ env nm xs l₁ s₁ → Go env ρ ρ₁ s s₁ →
        cX (model pw w) A (.whileLoop t' b' [] env) (fun r s' => ∃ v, r = .ok v ∧ PF w B env nm xs ρ s Q v s') s₁ := by
      intro k
      induction k using Nat.strongRecOn with
      | _ k ih =>
        intro l₁ h₁ ρ₁ s₁ hI hr1 lr1 g1
        refine .tree rfl ?_
        rw [Around.under_of_weight rfl]
        show wX _ A ((whileTurn t' b' [] env).onRaise _) _ _
        refine .onRaise ?_
        unfold whileTurn
        refine .bind (((exprOk bs tb t).2 _ h1 A ρ₁ l₁ h₁ s₁ _ R hr1 lr1 (fun v h' q' => ?_) (turn k l₁ h₁ hI)).mono fun c s₂ ⟨h₂, ρ₂, q2, hr2, st2⟩ => ?_)
        · cases v <;> (try exact q'.elim)
          exact ⟨_, rfl⟩
        · have lr2 := lr1.step st2
          have g2 := g1.trans hr1 lr1 (.of st2)
          cases c with
          | true =>
            refine .yes rfl (.bind ((hb _ h2 A ρ₂ l₁ h₂ s₂ _ R hr2 lr2 (q2.2 rfl)).mono fun f s₃ zz0 => ?_))
            refine hide fun gp gg => ?_; obtain ⟨fl, l₃, h₃, ρ₃, q3, rf, hr3, lr3, g3⟩ := zz0; refine gg ?_; clear gg gp
            have g := g2.trans hr2 lr2 g3
            cases fl with
            | next => cases rf; obtain ⟨m, hm, hI'⟩ := q3; exact .pure ⟨rfl, ih m hm l₃ h₃ ρ₃ s₃ hI' hr3 lr3 g⟩
            | brk => cases rf; exact .pure ⟨_, rfl, .next, l₃, h₃, ρ₃, q3, rfl, hr3, lr3, g⟩
            | ret v => obtain ⟨val, rfl, rv⟩ := rf; exact .pure ⟨_, rfl, .ret v, l₃, h₃, ρ₃, q3, ⟨val, rfl, rv⟩, hr3, lr3, g⟩
          | false =>
            refine .no (by decide) ?_
            exact .bind (.pure (.pure ⟨_, rfl, .next, l₁, h₂, ρ₂, q2.1 rfl, rfl, hr2, lr2, g2⟩))
    exact main n0 l h ρ s hI hr lr .refl
/-- what a walk over the items of a for asks and gives -/
structure Turns (w : World) (B : Heap) (A : Around) (I : Addr) (vs : List V) (okR : R → Prop) (okH : H → Prop) (St : Nat → Heap → Prop) : Prop where
  frame : ∀ i (h h' : Heap), St i h → (∀ o, h.get? I = some o → h'.get? I = some o) → St i h'
  alive : ∀ i (h : Heap), St i h → ∃ o, h.get? I = some o
  mono : ∀ ρ ρ' : R, okR ρ → (∀ (k : Nat) p, ρ[k]? = some p → ρ'[k]? = some p) → okR ρ'
  item : ∀ (i : Nat) v ρ h s (Q : Option Value → Shared → Prop), vs[i]? = some v → HR w B ρ h s → (∀ p ∈ ρ, I ≠ p.1 ∧ I ≠ p.2) → okR ρ → okH h → St i s.heap →
    (∀ val h' tk, RV ρ v val → St (i + 1) h' → Heap.ExtBut I s.heap h' → Q (some val) { s with heap := h', toks := tk }) → wpAny (model pw w) A (pyNext (.ref I)) Q no s
  done : ∀ ρ h s (Q : Option Value → Shared → Prop), HR w B ρ h s → okR ρ → okH h → St vs.length s.heap →
    (∀ h' tk, Heap.ExtBut I s.heap h' → Q none { s with heap := h', toks := tk }) → wpAny (model pw w) A (pyNext (.ref I)) Q no s
structure Apart (B : Heap) (env : Env) (ρ : R) (s₀ : Shared) (I : Addr) : Prop where
  new : s₀.heap.get? I = none
  base : B.get? I = none
  objs : ∀ p ∈ ρ, I ≠ p.1 ∧ I ≠ p.2
  loc : I ≠ env.locals
  cel : ∀ x, env.cells.lookup x ≠ some I
theorem Apart.go (a : Apart B env ρ₁ s₀ I) (g : Go env ρ₁ ρ₂ s₁ s₂) {o : Obj} (e : s₁.heap.get? I = some o) : Apart B env ρ₂ s₀ I ∧ s₂.heap.get? I = some o := by
  refine ⟨⟨a.new, a.base, fun p hp => ?_, a.loc, a.cel⟩, g.pres I o e a.objs a.loc a.cel⟩
  obtain ⟨gg, e1, h1⟩ := g.ext
  rw [e1] at hp
  rcases List.mem_append.mp hp with hp | hp
  · exact a.objs p hp
  · constructor
    · rintro rfl; rw [(h1 p hp).1] at e; cases e
    · rintro rfl; rw [(h1 p hp).2] at e; cases e
theorem block_nil {R : Result → Shared → Prop} (h : R (.ok .next) s) : cX (model pw w) A (.block [] env) R s := by
  refine .tree rfl ?_
  show wX _ _ ((execs [] env).onRaise _ >>= fun f => pure (Fin.done f)) _ _
  exact .bind (.onRaise (.pure (.pure h)))
theorem for_turns (bs : Base w B) {b : Ss} {b' : List Stmt} {i : Nat} {y : Str} {p : Pos} (hb : ExecsOk w B n env nm xs b) (h2 : mSs nm xs b b' = true) (hi : xs[i]? = some y) (hy : nm.lookup y = some .local)
    {A : Around} {Q : K2} (R : Room A n) {I : Addr} {vs : List V} {okR : Mine.R → Prop} {okH : H → Prop} {St : Nat → Heap → Prop} (T : Turns w B A I vs okR okH St) :
    ∀ (r : List V) (j : Nat) (l₁ : L) (h₁ : H) (ρ₁ : Mine.R) (s₁ : Shared), vs.drop j = r → j ≤ vs.length → wpFor (fun l2 h2 Q2 => wpSs (G w B n) b l2 h2 Q2) i okH r l₁ h₁ Q → okH h₁ → okR ρ₁ → HR w B ρ₁ h₁ s₁ → LR w B ρ₁ env nm xs l₁ s₁ →
      Go env ρ ρ₁ s s₁ → Apart B env ρ₁ s I → St j s₁.heap → cX (model pw w) A (.forLoop (.Name y p) (.ref I) b' [] env) (fun r s' => ∃ v, r = .ok v ∧ PF w B env nm xs ρ s Q v s') s₁ := by
  intro r
  induction r with
  | nil =>
    intro j l₁ h₁ ρ₁ s₁ e hj q hok hokR hr1 lr1 g1 ap st
    have ej : j = vs.length := by have := List.drop_eq_nil_iff.mp e; (first | lia | omega)
    subst ej
    refine .tree rfl ?_
    rw [Around.under_of_weight rfl]
    show wX _ A ((forTurn (.Name y p) (.ref I) b' [] env).onRaise _) _ _
    refine .onRaise ?_
    unfold forTurn
    refine .stand (.bind (.onRaise (.lift (T.done ρ₁ h₁ s₁ _ hr1 hokR hok st fun h' tk hs => ?_))))
    refine .pure ⟨rfl, block_nil ?_⟩
    refine ⟨_, rfl, .next, l₁, h₁, ρ₁, q, rfl, hr1.otherE hs ap.base ap.objs, lr1.keep fun a o ha e => hs a o (fun e' => ?_) e, g1.new ap.new hs⟩
    rcases ha with ha | ⟨z, hz⟩
    · exact ap.loc (e'.symm.trans ha)
    · exact ap.cel z (e' ▸ hz)
  | cons v r ih =>
    intro j l₁ h₁ ρ₁ s₁ e hj q hok hokR hr1 lr1 g1 ap st
    have hj' : j < vs.length := by
      have := congrArg List.length e
      rw [List.length_drop, List.length_cons] at this; (first | lia | omega)
    have hv : vs[j]? = some v := by
      have := congrArg (·[0]?) e
      simpa using this
    have er : vs.drop (j + 1) = r := by
      have := congrArg List.tail e
      simpa using this
    obtain ⟨ql, q⟩ := q
    refine .tree rfl ?_
    rw [Around.under_of_weight rfl]
    show wX _ A ((forTurn (.Name y p) (.ref I) b' [] env).onRaise _) _ _
    refine .onRaise ?_
    unfold forTurn
    refine .stand (.bind (.onRaise (.lift (T.item j v ρ₁ h₁ s₁ _ hv hr1 ap.objs hokR hok st fun val h' tk rv st' hs => ?_))))
    have hr2 : HR w B ρ₁ h₁ { s₁ with heap := h', toks := tk } := hr1.otherE hs ap.base ap.objs
    have lr2 : LR w B ρ₁ env nm xs l₁ { s₁ with heap := h', toks := tk } := lr1.keep fun a o ha e => hs a o (fun e' => by
      rcases ha with ha | ⟨z, hz⟩
      · exact ap.loc (e'.symm.trans ha)
      · exact ap.cel z (e' ▸ hz)) e
    have g2 : Go env ρ ρ₁ s { s₁ with heap := h', toks := tk } := g1.new ap.new hs
    dsimp only
    refine .bind (m := letOwnedTupleGo (.Name y p) (.ref I) val) (.pure ?_)
    rw [arm_assign_Name]
    refine .bind (.stand ((bind_ok (Q := fun l2 h2 => l2 = l₁.set i (some v) ∧ h2 = h₁) hr2 lr2 hi hy rv ⟨rfl, rfl⟩).mono fun _ s₃ zz0 => ?_))
    refine hide fun gp gg => ?_; obtain ⟨l₃, h₃, ρ₃, ⟨e1, e2⟩, hr3, lr3, g3⟩ := zz0; refine gg ?_; clear gg gp
    subst e1 e2
    obtain ⟨o, ho⟩ := T.alive _ _ st'
    obtain ⟨ap3, ho3⟩ := ap.go (s₁ := { s₁ with heap := h', toks := tk }) g3 ho
    refine .bind ((hb _ h2 A ρ₃ _ _ s₃ _ R hr3 lr3 q).mono fun f s₄ zz0 => ?_)
    refine hide fun gp gg => ?_; obtain ⟨fl, l₄, h₄, ρ₄, q4, rf, hr4, lr4, g4⟩ := zz0; refine gg ?_; clear gg gp
    obtain ⟨ap4, ho4⟩ := ap3.go g4 ho3
    have g := (g2.trans hr2 lr2 g3).trans hr3 lr3 g4
    cases fl with
    | next =>
      cases rf
      refine .pure ⟨rfl, ih (j + 1) l₄ h₄ ρ₄ s₄ er hj' q4.2 q4.1 (T.mono _ _ hokR fun k p e => g4.sub k p (g3.sub k p e)) hr4 lr4 g ap4 ?_⟩
      exact T.frame _ _ _ st' fun o' e' => by
        have : o' = o := by have := e'.symm.trans ho; exact Option.some.inj this
        rw [this]; exact ho4
    | brk => cases rf; exact .pure ⟨_, rfl, .next, l₄, h₄, ρ₄, q4, rfl, hr4, lr4, g⟩
    | ret v => obtain ⟨val, rfl, rv⟩ := rf; exact .pure ⟨_, rfl, .ret v, l₄, h₄, ρ₄, q4, ⟨val, rfl, rv⟩, hr4, lr4, g⟩
end
end Mine
end
section
set_option maxRecDepth 100000
namespace Mine
open PySem PySem.W PyProof.Rows PySem.SeqAt
theorem boot_range : bootBuiltins "range" = some (.type "range") := by decide +kernel
section
variable {w : World} {B : Heap} {A : Around} {ρ ρ₁ ρ₂ ρ₀ : R} {h h₁ : H} {s s₁ s₂ s₀ : Shared} {env : Env} {nm : List (Str × NameKind)} {xs : List Str} {l l₁ : L} {n : Nat}
noncomputable def Iterable (w : World) (B : Heap) (A : Around) (xv : Value) (vs : List V) (okH : H → Prop) (ρ : R) (h : H) (s : Shared) : Prop :=
  okH h ∧ ∀ Q : Value → Shared → Prop, (∀ I h' tk okR St, s.heap.objs.size ≤ I → (∀ b o, s.heap.get? b = some o → h'.get? b = some o) → Turns w B A I vs okR okH St → okR ρ → St 0 h' → Q (.ref I) { s with heap := h', toks := tk }) →
    wpAny (model pw w) A (pyIter xv) Q no s
theorem it_bytes {b : List UInt8} {t : Tok} (hh : A.handled = none) : Iterable w B A (.bytes b.toArray t) (b.map fun u => .int u.toNat) (fun _ => True) ρ h s := by
  refine ⟨trivial, fun Q k => KBw.pyIter_bytes (k s.heap.objs.size _ _ (fun _ => True) (fun i h => KBw.IsBytesIter h s.heap.objs.size b.toArray t i) (Nat.le_refl _) (fun b o e => Heap.get?_push_of_some _ e) ?_ trivial ⟨_, Heap.get?_push_size _ rfl, rfl, rfl⟩)⟩
  refine ⟨fun i h h' ⟨o, ho, r⟩ hk => ⟨o, hk o ho, r⟩, fun i h ⟨o, ho, _⟩ => ⟨o, ho⟩, fun _ _ _ _ => trivial, fun i v ρ h s Q hv hr hp _ _ st k => ?_, fun ρ h s Q hr _ _ st k => ?_⟩
  · rw [List.getElem?_map] at hv
    obtain ⟨u, hu, rfl⟩ := Option.map_eq_some_iff.mp hv
    exact KBw.next_item st (c := u) (by simpa using hu) fun h' hit' hs' => k _ h' _ ⟨_, rfl⟩ hit' hs'.extBut
  · exact KBw.next_end hh st (by simp) fun h' he => k h' s.toks he
theorem it_list {k : Nat} {vs : List V} {xv : Value} (hh : A.handled = none) (hr : HR w B ρ h s) (e : h[k]? = some (.list vs)) (rv : RV ρ (.obj k) xv) : Iterable w B A xv vs (fun h' => h'[k]? = some (.list vs)) ρ h s := by
  refine hide fun gp gg => ?_; obtain ⟨p, hp, rfl, z, arr, nn, g, rl⟩ := hr.val e rv; refine gg ?_; clear gg gp
  refine ⟨e, fun Q kk => wpAny_pyIter_list ⟨_, g, rfl, _, rfl⟩ (kk s.heap.objs.size _ _ (fun ρ' => ρ'[k]? = some p) (fun i h => h.IsListIter s.heap.objs.size p.1 i) (Nat.le_refl _) (fun b o e => Heap.get?_push_of_some _ e) ?_ hp ⟨_, Heap.get?_push_size _ rfl, rfl, rfl⟩)⟩
  refine ⟨fun i h h' ⟨o, ho, r⟩ hk => ⟨o, hk o ho, r⟩, fun i h ⟨o, ho, _⟩ => ⟨o, ho⟩, fun _ _ e hs => hs _ _ e, fun i v ρ h s Q hv hr _ hR hH st kk => ?_, fun ρ h s Q hr hR hH st kk => ?_⟩
  · refine hide fun gp gg => ?_; obtain ⟨z, arr, nn, g, rl⟩ := hr.objs k _ p hH hR; refine gg ?_; clear gg gp
    obtain ⟨val, hval, rval⟩ := rl.get hv
    exact wpAny_pyNext_list_item st ⟨_, g, rfl, _, rfl⟩ (x := val) (by simpa using hval) fun h' hit' hs' => kk _ h' s.toks rval hit' hs'.extBut
  · refine hide fun gp gg => ?_; obtain ⟨z, arr, nn, g, rl⟩ := hr.objs k _ p hH hR; refine gg ?_; clear gg gp
    have := rl.length
    exact wpAny_pyNext_list_end hh st ⟨_, g, rfl, _, rfl⟩ (by simp at this; simp [this]) fun h' he => kk h' s.toks he
theorem it_tup {k : Nat} {vs : List V} {xv : Value} (hh : A.handled = none) (hr : HR w B ρ h s) (e : h[k]? = some (.tup vs)) (rv : RV ρ (.obj k) xv) : Iterable w B A xv vs (fun h' => h'[k]? = some (.tup vs)) ρ h s := by
  refine hide fun gp gg => ?_; obtain ⟨p, hp, rfl, z, arr, nn, g, rl⟩ := hr.val e rv; refine gg ?_; clear gg gp
  refine ⟨e, fun Q kk => wpAny_pyIter_tuple ⟨_, g, rfl, _, rfl⟩ (kk s.heap.objs.size _ _ (fun ρ' => ρ'[k]? = some p) (fun i h => h.IsTupleIter s.heap.objs.size p.1 i) (Nat.le_refl _) (fun b o e => Heap.get?_push_of_some _ e) ?_ hp ⟨_, Heap.get?_push_size _ rfl, rfl, rfl⟩)⟩
  refine ⟨fun i h h' ⟨o, ho, r⟩ hk => ⟨o, hk o ho, r⟩, fun i h ⟨o, ho, _⟩ => ⟨o, ho⟩, fun _ _ e hs => hs _ _ e, fun i v ρ h s Q hv hr _ hR hH st kk => ?_, fun ρ h s Q hr hR hH st kk => ?_⟩
  · refine hide fun gp gg => ?_; obtain ⟨z, arr, nn, g, rl⟩ := hr.objs k _ p hH hR; refine gg ?_; clear gg gp
    obtain ⟨val, hval, rval⟩ := rl.get hv
    exact wpAny_pyNext_tuple_item st ⟨_, g, rfl, _, rfl⟩ (x := val) (by simpa using hval) fun h' hit' hs' => kk _ h' s.toks rval hit' hs'.extBut
  · refine hide fun gp gg => ?_; obtain ⟨z, arr, nn, g, rl⟩ := hr.objs k _ p hH hR; refine gg ?_; clear gg gp
    have := rl.length
    exact wpAny_pyNext_tuple_end hh st ⟨_, g, rfl, _, rfl⟩ (by simp at this; simp [this]) fun h' he => kk h' s.toks he
theorem it_sizes (tb : Tabs B) (hh : A.handled = none) (hr : HR w B ρ h s) : Iterable w B A (.ref 75) sizesL (fun _ => True) ρ h s := by
  have rl : ∀ ρ : R, RVs ρ sizesL [.int 1 284, .int 2 285, .int 4 286, .int 8 287] := fun ρ => ⟨⟨_, rfl⟩, ⟨_, rfl⟩, ⟨_, rfl⟩, ⟨_, rfl⟩, trivial⟩
  have g := hr.base _ _ tb.sizes
  refine ⟨trivial, fun Q kk => wpAny_pyIter_tuple ⟨_, g, rfl, _, rfl⟩ (kk s.heap.objs.size _ _ (fun _ => True) (fun i h => h.IsTupleIter s.heap.objs.size 75 i) (Nat.le_refl _) (fun b o e => Heap.get?_push_of_some _ e) ?_ trivial ⟨_, Heap.get?_push_size _ rfl, rfl, rfl⟩)⟩
  refine ⟨fun i h h' ⟨o, ho, r⟩ hk => ⟨o, hk o ho, r⟩, fun i h ⟨o, ho, _⟩ => ⟨o, ho⟩, fun _ _ _ _ => trivial, fun i v ρ h s Q hv hr _ _ _ st kk => ?_, fun ρ h s Q hr _ _ st kk => ?_⟩
  · have g := hr.base _ _ tb.sizes
    obtain ⟨val, hval, rval⟩ := (rl ρ).get hv
    exact wpAny_pyNext_tuple_item st ⟨_, g, rfl, _, rfl⟩ (x := val) (by simpa using hval) fun h' hit' hs' => kk _ h' s.toks rval hit' hs'.extBut
  · have g := hr.base _ _ tb.sizes
    exact wpAny_pyNext_tuple_end hh st ⟨_, g, rfl, _, rfl⟩ (by simp [sizesL]) fun h' he => kk h' s.toks he
theorem it_range {r : Addr} {a b c : Int} {t u v : Tok} {m : Nat} (hh : A.handled = none) (hr : IsRange s.heap r a b c t u v) (hsmall : Builtin.Range.small a b c = true) (hn : Builtin.Range.rangeSize a b c = (m : Int)) :
    Iterable w B A (.ref r) ((List.range m).map fun (i : Nat) => .int (a + i * c)) (fun _ => True) ρ h s := by
  refine ⟨trivial, fun Q kk => wpAny_pyIter_range hr hsmall (kk s.heap.objs.size _ _ (fun _ => True) (fun i h => IsRangeIter h s.heap.objs.size (a + (i : Nat) * c) ((m : Int) - (i : Nat)) c) (Nat.le_refl _) (fun b o e => Heap.get?_push_of_some _ e) ?_ trivial ?_)⟩
  · refine ⟨fun i h h' st hk => hk _ st, fun i h st => ⟨_, st⟩, fun _ _ _ _ => trivial, fun i v ρ h s Q hv hr _ _ _ st kk => ?_, fun ρ h s Q hr _ _ st kk => ?_⟩
    · rw [List.getElem?_map] at hv
      obtain ⟨j, hj, rfl⟩ := Option.map_eq_some_iff.mp hv
      have hlt : i < m := by have := (List.getElem?_eq_some_iff.mp hj).1; simpa using this
      have ej : j = i := by rw [List.getElem?_range hlt] at hj; exact (Option.some.inj hj).symm
      subst ej
      refine wpAny_pyNext_range_item st (by (first | lia | omega)) fun h' hit' hs' => kk _ h' _ ⟨_, rfl⟩ ?_ hs'.extBut
      have e1 : a + ((j + 1 : Nat) : Int) * c = a + (j : Int) * c + c := by push_cast; rw [Int.add_mul, Int.one_mul, Int.add_assoc]
      have e2 : (m : Int) - ((j + 1 : Nat) : Int) = (m : Int) - (j : Int) - 1 := by push_cast; (first | lia | omega)
      rw [e1, e2]; exact hit'
    · exact wpAny_pyNext_range_end hh st (by simp) fun h' he => kk h' s.toks he
  · rw [hn]
    have : IsRangeIter (s.heap.push { cls := .type "range_iterator", data := .fields #[rawInt a, rawInt (m : Int), rawInt c] }) s.heap.objs.size a m c := Heap.get?_push_size _ rfl
    simpa using this
noncomputable def PI (w : World) (B : Heap) (A : Around) (ρ : R) (s : Shared) (Q : List V → (H → Prop) → H → Prop) : Value → Shared → Prop :=
  fun xv s₁ => ∃ vs okH h₁ ρ₁, Q vs okH h₁ ∧ HR w B ρ₁ h₁ s₁ ∧ Step ρ ρ₁ s s₁ ∧ Iterable w B A xv vs okH ρ₁ h₁ s₁
theorem rangeCall_X (bs : Base w B) {es : Es} (hes : EvalsOk w B n env nm xs es) {g : Expr} {ys : List Expr} {pos : Pos} (h1 : gName nm "range" g = true) (h3 : mEs nm xs es ys = true) (R : Room A n) (hr : HR w B ρ h s) (lr : LR w B ρ env nm xs l s)
    {Q : List V → H → Prop} {P : Value → Shared → Prop} (q : wpEs (G w B n) es l h Q)
    (k : ∀ vs vals h₁ ρ₁ s₁, Q vs h₁ → RVs ρ₁ vs vals → HR w B ρ₁ h₁ s₁ → Step ρ ρ₁ s s₁ → wpAny (model pw w) A (call (.type "range") vals) P no s₁) : wX (model pw w) A (eval (.Call g ys [] pos) env) P s := by
  have e : eval (.Call g ys [] pos) env = (do callWith pos (← eval g env) [] (backTo pos (starEach ys env)) (backToKw pos (keywordEach [] env))) := by
    obtain ⟨pp, rfl, _⟩ := gName_of h1; rfl
  rw [e]
  refine .bind (.lift (blt_ok bs hr lr h1 (blt_of _ (by decide +kernel)) (by decide +kernel) boot_range ?_))
  exact callWith_X (mEs_plain pos es ys h3).1 ((hes _ h3 pos A ρ l h s _ R hr lr q).mono fun vals s₁ ⟨_, vs, h₁, ρ₁, q1, r1, hr1, st1⟩ => ⟨looksM rfl, .lift (k vs vals h₁ ρ₁ s₁ q1 r1 hr1 st1)⟩)
theorem it_ok (bs : Base w B) (tb : Tabs B) {it : It} {x : Expr} (hx : mIt nm xs it x = true) (R : Room A n) (hr : HR w B ρ h s) (lr : LR w B ρ env nm xs l s) {Q : List V → (H → Prop) → H → Prop}
    (q : wpIt (G w B n) it l h Q) : wX (model pw w) A (eval x env) (PI w B A ρ s Q) s ∧ ∀ v, foldedSetIterable x env v = pure v := by
  cases it with
  | e e =>
    refine ⟨?_, folded_no hx⟩
    refine wX.mono ((exprOk bs tb e).1 _ hx A ρ l h s _ R hr lr q) fun val s₁ zz0 => ?_
    refine hide fun gp gg => ?_; obtain ⟨v, h₁, ρ₁, q1, r1, hr1, st1⟩ := zz0; refine gg ?_; clear gg gp
    cases v <;> (try exact q1.elim)
    · obtain ⟨_, t, rfl⟩ := r1
      exact ⟨_, _, h₁, ρ₁, q1, hr1, st1, it_bytes R.handled⟩
    · rename_i k
      dsimp only at q1
      cases ek : h₁[k]? with
      | none => simp only [ek] at q1
      | some o =>
        simp only [ek] at q1
        cases o <;> (try exact q1.elim)
        · exact ⟨_, _, h₁, ρ₁, q1, hr1, st1, it_list R.handled hr1 ek r1⟩
        · exact ⟨_, _, h₁, ρ₁, q1, hr1, st1, it_tup R.handled hr1 ek r1⟩
    · cases r1
      exact ⟨_, _, h₁, ρ₁, q1, hr1, st1, it_sizes tb R.handled hr1⟩
  | range1 a =>
    refine hide fun gp gg => ?_; obtain ⟨⟨⟨g, ys, pos⟩, e0⟩, _, hx⟩ := on_inv hx; refine gg ?_; clear gg gp
    · subst e0
      refine and2 hx fun h1 h3 => ?_
      refine ⟨rangeCall_X bs (exprsOk bs tb (.cons a .nil)).1 h1 h3 R hr lr (Q := fun vs h1 => match vs with | [.int b] => (-1000 < b ∧ b < 1000) ∧ Q (rangeUp 0 b) (fun _ => True) h1 | _ => False) ?_ fun vs vals h₁ ρ₁ s₁ q1 r1 hr1 st1 => ?_, fun _ => rfl⟩
      · show wpE (G w B n) a l h _
        refine Eq.mp (congrArg (wpE (G w B n) a l h) ?_) q
        funext x h1
        cases x <;> rfl
      · rcases vs with _ | ⟨v, vs⟩; · exact q1.elim
        cases v <;> first | exact q1.elim | skip
        · rename_i b
          rcases vs with _ | ⟨v, vs⟩; rotate_left; · exact q1.elim
          rcases vals with _ | ⟨val, vals⟩; · exact r1.elim
          rcases vals with _ | ⟨_, vals⟩; rotate_left; · exact r1.2.elim
          obtain ⟨⟨t, rfl⟩, _⟩ := r1
          refine call_range_1 ?_
          have kp : ∀ x o, s₁.heap.get? x = some o → (s₁.heap.push { cls := .type "range", data := .fields #[.int 0 s₁.toks, .int b t, .int 1 (s₁.toks + 1)] }).get? x = some o := fun _ _ e => Heap.get?_push_of_some _ e
          refine ⟨_, _, h₁, ρ₁, q1.2, hr1.more kp, st1.then hr1 (.more kp), ?_⟩
          have := it_range (w := w) (B := B) (ρ := ρ₁) (h := h₁) (s := { s₁ with heap := s₁.heap.push { cls := .type "range", data := .fields #[.int 0 s₁.toks, .int b t, .int 1 (s₁.toks + 1)] }, toks := s₁.toks + 1 + 1 }) R.handled (IsRange.new _ _ _ _ _ _ _) (small_one (by (first | lia | omega)) (by (first | lia | omega)) (by (first | lia | omega)) (by (first | lia | omega))) (rangeSize_nat 0 b)
          unfold rangeUp
          simpa using this
  | range2 a c =>
    refine hide fun gp gg => ?_; obtain ⟨⟨⟨g, ys, pos⟩, e0⟩, _, hx⟩ := on_inv hx; refine gg ?_; clear gg gp
    · subst e0
      refine and2 hx fun h1 h3 => ?_
      refine ⟨rangeCall_X bs (exprsOk bs tb (.cons a (.cons c .nil))).1 h1 h3 R hr lr (Q := fun vs h1 => match vs with | [.int a, .int b] => ((-1000 < a ∧ a < 1000) ∧ -1000 < b ∧ b < 1000) ∧ Q (rangeUp a b) (fun _ => True) h1 | _ => False) ?_ fun vs vals h₁ ρ₁ s₁ q1 r1 hr1 st1 => ?_, fun _ => rfl⟩
      · show wpE (G w B n) a l h fun x h1 => wpE (G w B n) c l h1 _
        refine Eq.mp (congrArg (wpE (G w B n) a l h) ?_) q
        funext x h1
        refine congrArg (wpE (G w B n) c l h1) ?_
        funext y h2
        cases x <;> first | rfl | (cases y <;> rfl)
      · rcases vs with _ | ⟨v, vs⟩; · exact q1.elim
        cases v <;> first | exact q1.elim | skip
        rename_i a
        rcases vs with _ | ⟨v, vs⟩; · exact q1.elim
        cases v <;> first | exact q1.elim | skip
        · rename_i b
          rcases vs with _ | ⟨v, vs⟩; rotate_left; · exact q1.elim
          rcases vals with _ | ⟨_, vals⟩; · exact r1.elim
          rcases vals with _ | ⟨_, vals⟩; · exact r1.2.elim
          rcases vals with _ | ⟨_, vals⟩; rotate_left; · exact r1.2.2.elim
          refine hide fun gp gg => ?_; obtain ⟨⟨t, rfl⟩, ⟨u, rfl⟩, _⟩ := r1; refine gg ?_; clear gg gp
          refine call_range_2 ?_
          have kp : ∀ x o, s₁.heap.get? x = some o → (s₁.heap.push { cls := .type "range", data := .fields #[.int a t, .int b u, .int 1 s₁.toks] }).get? x = some o := fun _ _ e => Heap.get?_push_of_some _ e
          refine ⟨_, _, h₁, ρ₁, q1.2, hr1.more kp, st1.then hr1 (.more kp), ?_⟩
          have := it_range (w := w) (B := B) (ρ := ρ₁) (h := h₁) (s := { s₁ with heap := s₁.heap.push { cls := .type "range", data := .fields #[.int a t, .int b u, .int 1 s₁.toks] }, toks := s₁.toks + 1 }) R.handled (IsRange.new _ _ _ _ _ _ _) (small_one (by (first | lia | omega)) (by (first | lia | omega)) (by (first | lia | omega)) (by (first | lia | omega))) (rangeSize_nat a b)
          unfold rangeUp
          simpa using this
  | range3 a c =>
    refine hide fun gp gg => ?_; obtain ⟨⟨⟨g, ys, pos⟩, e0⟩, _, hx⟩ := on_inv hx; refine gg ?_; clear gg gp
    · subst e0
      refine and2 hx fun h1 h3 => ?_
      refine ⟨rangeCall_X bs (exprsOk bs tb (.cons a (.cons c (.cons (.neg (.int 1)) .nil)))).1 h1 h3 R hr lr (Q := fun vs h1 => match vs with | [.int a, .int b, .int c] => c = -1 ∧ ((-1000 < a ∧ a < 1000) ∧ -1000 < b ∧ b < 1000) ∧ Q (rangeDown a b) (fun _ => True) h1 | _ => False) ?_ fun vs vals h₁ ρ₁ s₁ q1 r1 hr1 st1 => ?_, fun _ => rfl⟩
      · show wpE (G w B n) a l h fun x h1 => wpE (G w B n) c l h1 _
        refine Eq.mp (congrArg (wpE (G w B n) a l h) ?_) q
        funext x h1
        refine congrArg (wpE (G w B n) c l h1) ?_
        funext y h2
        cases x <;> first | rfl | (cases y <;> first | rfl | exact propext ⟨fun h => ⟨rfl, h⟩, fun h => h.2⟩)
      · rcases vs with _ | ⟨v, vs⟩; · exact q1.elim
        cases v <;> first | exact q1.elim | skip
        rename_i a
        rcases vs with _ | ⟨v, vs⟩; · exact q1.elim
        cases v <;> first | exact q1.elim | skip
        rename_i b
        rcases vs with _ | ⟨v, vs⟩; · exact q1.elim
        cases v <;> first | exact q1.elim | skip
        · rename_i c
          rcases vs with _ | ⟨v, vs⟩; rotate_left; · exact q1.elim
          rcases vals with _ | ⟨_, vals⟩; · exact r1.elim
          rcases vals with _ | ⟨_, vals⟩; · exact r1.2.elim
          rcases vals with _ | ⟨_, vals⟩; · exact r1.2.2.elim
          rcases vals with _ | ⟨_, vals⟩; rotate_left; · exact r1.2.2.2.elim
          refine hide fun gp gg => ?_; obtain ⟨⟨t, rfl⟩, ⟨u, rfl⟩, ⟨v, rfl⟩, _⟩ := r1; refine gg ?_; clear gg gp
          obtain ⟨rfl, q0, q1⟩ := q1
          refine call_range_3 (by decide) ?_ (.inl (PyProof.noPylong_small (by decide)))
          have kp : ∀ x o, s₁.heap.get? x = some o → (s₁.heap.push { cls := .type "range", data := .fields #[.int a t, .int b u, .int (-1) v] }).get? x = some o := fun _ _ e => Heap.get?_push_of_some _ e
          refine ⟨_, _, h₁, ρ₁, q1, hr1.more kp, st1.then hr1 (.more kp), ?_⟩
          have := it_range (w := w) (B := B) (ρ := ρ₁) (h := h₁) (s := { s₁ with heap := s₁.heap.push { cls := .type "range", data := .fields #[.int a t, .int b u, .int (-1) v] }, toks := s₁.toks }) R.handled (IsRange.new _ _ _ _ _ _ _) (small_down (by (first | lia | omega)) (by (first | lia | omega)) (by (first | lia | omega)) (by (first | lia | omega))) (rangeSize_downNat a b)
          unfold rangeDown
          refine Eq.mp (congrArg (fun f => Iterable w B A _ ((List.range (a - b).toNat).map f) _ ρ₁ h₁ _) ?_) this
          funext i
          congr 1
          (first | lia | omega)
theorem for_ok (bs : Base w B) (tb : Tabs B) {i : Nat} {it : It} {b : Ss} (hb : ExecsOk w B n env nm xs b) : ExecOk w B n env nm xs (.for i it b) := by
  intro x hx A ρ l h s Q R hr lr q
  apply invS_for hx; intro _ _ _ _ _ hx
  · rename_i y p it' b' pos
    refine and4 hx fun h1 h3 h5 h6 => ?_
    rw [arm_exec_For]
    dsimp only [xF] at q
    obtain ⟨X, hf⟩ := it_ok bs tb h5 R hr lr q
    refine .stand (.bind (X.mono fun xv s₁ zz0 => ?_))
    refine hide fun gp gg => ?_; obtain ⟨vs, okH, h₁, ρ₁, q1, hr1, st1, ok1, itb⟩ := zz0; refine gg ?_; clear gg gp
    rw [hf xv]
    refine .bind (.pure (.stand (.bind (.holding (.lift (itb _ fun I h' tk okR St hI hk T hokR st => ?_))))))
    have lr1 := lr.step st1
    have stm : Step ρ₁ ρ₁ s₁ { s₁ with heap := h', toks := tk } := .more hk
    refine runOwn_X (for_turns bs hb h6 (beq_iff_eq.mp h1) (beq_iff_eq.mp h3) R T vs 0 l h₁ ρ₁ _ rfl (Nat.zero_le _) q1 ok1 hokR (hr1.more hk) (lr1.step stm) (.of (st1.then hr1 stm)) ?_ st)
    refine ⟨?_, (hr1.new hI).1, fun p hp => ⟨?_, ?_⟩, ?_, fun z hz => ?_⟩
    · cases e : s.heap.get? I with
      | none => rfl
      | some o => obtain ⟨o', e'⟩ := hr1.old st1 _ _ e; rw [get_big hI] at e'; cases e'
    · exact Nat.ne_of_gt (Nat.lt_of_lt_of_le (hr1.lt hp).1 hI)
    · exact Nat.ne_of_gt (Nat.lt_of_lt_of_le (hr1.lt hp).2 hI)
    · refine hide fun gp gg => ?_; obtain ⟨m, ⟨o, es, ep, ho, _⟩, _⟩ := lr1.loc; refine gg ?_; clear gg gp
      exact Nat.ne_of_gt (Nat.lt_of_lt_of_le (Heap.lt_size ho) hI)
    · obtain ⟨o, ho⟩ := lr1.alive z I hz
      exact Nat.ne_of_gt (Nat.lt_of_lt_of_le (Heap.lt_size ho) hI) rfl
mutual
theorem execOk (bs : Base w B) (tb : Tabs B) : ∀ t : S, ExecOk w B n env nm xs t
  | .expr _ => expr_ok bs tb
  | .asg _ _ => asg_ok bs tb
  | .aug _ _ _ _ => aug_ok bs tb
  | .ite _ a b => ite'_ok bs tb (execsOk bs tb a) (execsOk bs tb b)
  | .while _ b => while_ok bs tb (execsOk bs tb b)
  | .for _ _ b => for_ok bs tb (execsOk bs tb b)
  | .ret _ => ret_ok bs tb
  | .brk => brk_ok
  | .try_ b => try_ok (execsOk bs tb b)
  | .raise => raise_ok
theorem execsOk (bs : Base w B) (tb : Tabs B) : ∀ t : Ss, ExecsOk w B n env nm xs t
  | .nil => nil_ok
  | .cons a r => cons_ok (execOk bs tb a) (execsOk bs tb r)
end
end
end Mine
end
section
set_option maxRecDepth 100000
namespace Mine
open PySem PySem.W PyProof.Rows PySem.SeqAt
/- ==== a function of the text's own is called ==== -/
theorem lookup_zip {α : Type} : ∀ (ns : List Str) (vs : List α), ns.Nodup → ns.length = vs.length → ∀ (L : List (Str × α)), (∀ p ∈ ns.zip vs, L.lookup p.1 = some p.2) → (ns.filterMap fun n => (L.lookup n).map (n, ·)) = ns.zip vs
  | [], _, _, _, _, _ => by simp
  | n :: ns, [], _, h, _, _ => by cases h
  | n :: ns, v :: vs, nd, h, L, hL => by
    have h0 := hL (n, v) (by simp)
    rw [List.filterMap_cons, h0]
    show (n, v) :: _ = _
    rw [lookup_zip ns vs (List.nodup_cons.mp nd).2 (by simpa using h) L fun p hp => hL p (by simp [hp])]
    rfl
theorem lookup_self {α : Type} : ∀ (ns : List Str) (vs : List α), ns.Nodup → ∀ p ∈ ns.zip vs, (ns.zip vs).lookup p.1 = some p.2
  | [], _, _, p, hp => by simp at hp
  | n :: ns, [], _, p, hp => by simp at hp
  | n :: ns, v :: vs, nd, p, hp => by
    rw [List.zip_cons_cons] at hp ⊢
    rw [List.lookup_cons]
    rcases List.mem_cons.mp hp with rfl | hp
    · simp
    · have hn : p.1 ≠ n := fun e => (List.nodup_cons.mp nd).1 (e ▸ (List.of_mem_zip (show (p.1, p.2) ∈ ns.zip vs from hp)).1)
      rw [show (p.1 == n) = false from beq_eq_false_iff_ne.mpr hn]
      exact lookup_self ns vs (List.nodup_cons.mp nd).2 p hp
theorem lookup_some {α : Type} (n : Str) : ∀ (ns : List Str) (vs : List α), ns.length = vs.length → n ∈ ns → ((ns.zip vs).lookup n).isNone = false
  | [], _, _, hp => by cases hp
  | m :: ns, [], h, hp => by cases h
  | m :: ns, v :: vs, h, hp => by
    rw [List.zip_cons_cons, List.lookup_cons]
    cases e : n == m with
    | true => rfl
    | false =>
      rcases List.mem_cons.mp hp with rfl | hp
      · simp at e
      · exact lookup_some n ns vs (by simpa using h) hp
theorem bind_plain {fd : FuncData} {ps : List Arg} {vals : List Value} (hp : fd.params = ⟨[], ps, none, [], [], none, []⟩) (hd : fd.defaults = .none) (hl : vals.length = ps.length) (nd : (ps.map (·.arg)).Nodup) :
    bindArgs fd ⟨vals, []⟩ = pure ((ps.map (·.arg)).zip vals) := by
  have e1 : (ps.map (·.arg)).filter (fun n => (((ps.map (·.arg)).zip vals).lookup n).isNone) = [] := by
    rw [List.filter_eq_nil_iff]
    intro n hn
    rw [lookup_some n _ _ (by simpa using hl.symm) hn]
    decide
  have e2 := lookup_zip (ps.map (·.arg)) vals nd (by simpa using hl.symm) _ (lookup_self _ _ nd)
  unfold bindArgs
  rw [hp, hd]
  show ((do
    let defaults := ((← seqItems? .none).getD #[]).toList
    _) : Sem (List (Str × Value))) = _
  have e0 : seqItems? .none = pure none := rfl
  rw [e0, pure_bind]
  rw [pure_bind]
  have e3 : List.filter (fun n => (((ps.map (·.arg)).zip vals).lookup n).isNone) (List.take ((ps.map (·.arg)).length - (List.drop (([] : List Value).length - (ps.map (·.arg)).length) ([] : List Value)).length) (ps.map (·.arg))) = [] := by
    rw [List.drop_nil, List.length_nil, Nat.sub_zero, List.take_of_length_le (Nat.le_refl _)]; exact e1
  have e4 : (List.drop ((ps.map (·.arg)).length - (List.drop (([] : List Value).length - (ps.map (·.arg)).length) ([] : List Value)).length) (ps.map (·.arg))).zip (List.drop (([] : List Value).length - (ps.map (·.arg)).length) ([] : List Value)) = [] := by rw [List.drop_nil]; exact List.zip_nil_right
  refine Eq.trans (b := ite _ _ _) rfl ?_
  refine (if_neg (by simp [hl])).trans ?_
  refine Eq.trans (b := ite _ _ _) rfl ?_
  refine (if_neg ?_).trans ?_
  · intro hc
    exact absurd (show (!(List.filter (fun n => (((ps.map (·.arg)).zip vals).lookup n).isNone) (List.take ((ps.map (·.arg)).length - (List.drop (([] : List Value).length - (ps.map (·.arg)).length) ([] : List Value)).length) (ps.map (·.arg)))).isEmpty) = true from hc) (by rw [e3]; decide)
  refine Eq.trans (b := (forIn ((List.drop ((ps.map (·.arg)).length - (List.drop (([] : List Value).length - (ps.map (·.arg)).length) ([] : List Value)).length) (ps.map (·.arg))).zip (List.drop (([] : List Value).length - (ps.map (·.arg)).length) ([] : List Value))) _ _) >>= _) rfl ?_
  rw [e4, List.forIn_nil, pure_bind]
  refine Eq.trans (b := (forIn ([] : List Str) (_, _) _) >>= _) rfl ?_
  rw [List.forIn_nil, pure_bind]
  refine Eq.trans (b := ite _ _ _) rfl ?_
  refine (if_neg (by simp)).trans ?_
  refine Eq.trans (b := (pure (List.filterMap (fun n => (((ps.map (·.arg)).zip vals).lookup n).map (n, ·)) (ps.map (·.arg) ++ [])) : Sem (List (Str × Value)))) rfl ?_
  rw [List.append_nil, e2]
theorem cellsFrom_some {x : Str} : ∀ (names : List (Str × NameKind)) (n : Nat) (acc : List (Str × Addr)), ((acc.lookup x).isSome = true ∨ (x, NameKind.cell) ∈ names) → ((cellsFrom n names acc).lookup x).isSome = true
  | [], _, acc, h => by
    rcases h with h | h
    · exact h
    · cases h
  | (y, k) :: r, n, acc, h => by
    unfold cellsFrom
    split
    · rename_i hk
      refine cellsFrom_some r _ _ ?_
      rcases h with h | h
      · left
        rw [List.lookup_cons]
        split
        · rfl
        · exact h
      · rcases List.mem_cons.mp h with e | h
        · cases e
          left
          rw [List.lookup_cons]; simp
        · exact .inr h
    · rename_i hk
      refine cellsFrom_some r _ _ ?_
      rcases h with h | h
      · exact .inl h
      · rcases List.mem_cons.mp h with e | h
        · cases e; simp at hk
        · exact .inr h
/-- what the binding of the arguments leaves -/
theorem bindL_other {kf : Str → Option NameKind} {x : Str} : ∀ (bs : List (Str × Value)) (m : Str → Option Value), (∀ p ∈ bs, p.1 ≠ x) → bindL kf bs m x = m x
  | [], _, _ => rfl
  | (n, v) :: r, m, h => by
    unfold bindL
    rw [bindL_other r _ fun p hp => h p (List.mem_cons_of_mem _ hp)]
    split
    · exact if_neg (h (n, v) List.mem_cons_self).symm
    · rfl
theorem bindC_other {kf : Str → Option NameKind} {x : Str} : ∀ (bs : List (Str × Value)) (m : Str → Option Value), (∀ p ∈ bs, p.1 ≠ x) → bindC kf bs m x = m x
  | [], _, _ => rfl
  | (n, v) :: r, m, h => by
    unfold bindC
    rw [bindC_other r _ fun p hp => h p (List.mem_cons_of_mem _ hp)]
    split
    · rfl
    · exact if_neg (h (n, v) List.mem_cons_self).symm
theorem bindL_at {kf : Str → Option NameKind} {x : Str} {v : Value} (hk : kf x = some .local) : ∀ (ns : List Str) (vs : List Value) (i : Nat) (m : Str → Option Value), ns.Nodup → ns[i]? = some x → vs[i]? = some v → bindL kf (ns.zip vs) m x = some v
  | [], _, _, _, _, h, _ => by simp at h
  | _ :: _, [], _, _, _, _, h => by simp at h
  | n :: ns, u :: us, 0, m, nd, h1, h2 => by
    cases h1; cases h2
    rw [List.zip_cons_cons]
    unfold bindL
    rw [bindL_other (x := x) _ _ fun p hp e => (List.nodup_cons.mp nd).1 (by rw [← e]; exact (List.of_mem_zip (show (p.1, p.2) ∈ ns.zip us from hp)).1), if_pos hk]
    exact if_pos rfl
  | n :: ns, u :: us, i + 1, m, nd, h1, h2 => by
    rw [List.zip_cons_cons]
    unfold bindL
    exact bindL_at hk ns us i _ (List.nodup_cons.mp nd).2 h1 h2
theorem bindC_at {kf : Str → Option NameKind} {x : Str} {v : Value} (hk : kf x = some .cell) : ∀ (ns : List Str) (vs : List Value) (i : Nat) (m : Str → Option Value), ns.Nodup → ns[i]? = some x → vs[i]? = some v → bindC kf (ns.zip vs) m x = some v
  | [], _, _, _, _, h, _ => by simp at h
  | _ :: _, [], _, _, _, _, h => by simp at h
  | n :: ns, u :: us, 0, m, nd, h1, h2 => by
    cases h1; cases h2
    rw [List.zip_cons_cons]
    unfold bindC
    rw [bindC_other (x := x) _ _ fun p hp e => (List.nodup_cons.mp nd).1 (by rw [← e]; exact (List.of_mem_zip (show (p.1, p.2) ∈ ns.zip us from hp)).1), if_neg (by rw [hk]; decide)]
    exact if_pos rfl
  | n :: ns, u :: us, i + 1, m, nd, h1, h2 => by
    rw [List.zip_cons_cons]
    unfold bindC
    exact bindC_at hk ns us i _ (List.nodup_cons.mp nd).2 h1 h2
section
variable {w : World} {B : Heap} {A : Around} {ρ ρ₁ ρ₂ ρ₀ : R} {h h₁ : H} {s s₁ s₂ s₀ : Shared} {env : Env} {nm : List (Str × NameKind)} {xs : List Str} {l l₁ : L} {n : Nat}
theorem cX_function {a : Addr} {args : Args} {o : Obj} {fd : FuncData} {body : List Stmt} {R : Result → Shared → Prop} (hroom : A.depth < recursionLimit)
    (ho : s.heap.get? a = some o) (hd' : o.data = .func fd) (hco : fd.scope.isCoroutine = false) (hgen : fd.scope.isGenerator = false) (hbody : fd.body = .stmts body) (hcd : s.heap.CodeRec fd.code fd.qualname)
    (h : wpAny (model pw w) A.in1 (bindArgs fd args) (fun binds s₁ =>
      wpAny (model pw w) A.in1 (newFunctionEnv fd.scope fd.globals fd.closure binds (fd.qualname ++ ".<locals>.") (some a) fd.code none fd.builtins)
        (fun env s₂ => s₂.heap.NoLimit ∧ cX (model pw w) A (.func body env) R s₂) no s₁) no s) :
    cX (model pw w) A (.call (.ref a) args) R s := by
  refine .tree rfl (.lift ?_)
  show wpAny _ A.in1 (callAny (.ref a) args) _ _ s
  simp only [callAny]
  refine wpAny_bind (wpAny_load ho ?_)
  refine hide fun gp gg => ?_; obtain ⟨c, oc, vs, tq, hc, hoc, hdc, hq⟩ := hcd; refine gg ?_; clear gg gp
  simp only [hd', callFunction, hco, hgen, hbody, hc]
  rw [hc] at h
  refine wpAny_bind (m := field (.ref c) 1) (wpAny_field hoc hdc hq (wpAny_bind (wpAny_pure ?_)))
  exact wpAny_bind (wpAny_mono h (fun binds s₁ h₁ => wpAny_bind (wpAny_mono h₁ (fun env s₂ h₂ => wpAny_bind (wpAny_enterFrame h₂.1 hroom
    (wpAny_pure (And.intro rfl h₂.2)))) fun _ _ h' => h')) fun _ _ h' => h')
theorem cX_func {body : List Stmt} {R : Result → Shared → Prop} (h : wX (model pw w) (A.deeper env) (execs body env) (fun f s' => R (.ok (.ret (match f with | .ret v => v | _ => .none))) s') s) : cX (model pw w) A (.func body env) R s := by
  refine .tree rfl ?_
  show wX _ (A.deeper env) (do point; match ← (execs body env).onRaise (leaving env) with | .ret v => ret v | _ => ret .none) _ s
  refine .bind (.lift (wpAny_point ?_))
  refine .bind (.onRaise (h.mono fun f s' h' => ?_))
  cases f <;> exact .pure h'
noncomputable def isNoneV : Value → Bool
  | .none => true
  | _ => false
theorem isNoneV_of {v : Value} (h : isNoneV v = true) : v = .none := by cases v <;> first | rfl | cases h
noncomputable def viewArgs (p : Arguments) : Option {ps // p = ⟨[], ps, none, [], [], none, []⟩} := match p with
  | ⟨[], ps, none, [], [], none, []⟩ => some ⟨ps, rfl⟩
  | _ => none
noncomputable def plainArgs (p : Arguments) (ns : List Str) : Bool := on (viewArgs p) fun z => z.1.map (·.arg) == ns
noncomputable def fdFit (K : Frag) (fd : FuncData) (np : Nat) (xs : List Str) (b : Ss) : Bool :=
  (match fd.body with | .stmts body => mSs fd.scope.names xs b body | _ => false) &&
  (plainArgs fd.params (xs.take np) &&
  (isNoneV fd.defaults &&
  (fd.closure.isEmpty &&
  (fd.scope.kind == .function &&
  (!fd.scope.isCoroutine &&
  (!fd.scope.isGenerator &&
  (fd.globals == mainGlobals &&
  (fd.builtins == builtinsNs &&
  ((match fd.code with | .ref c => (codesOf K).contains (c, fd.qualname) | _ => false) &&
  (decide xs.Nodup &&
  (decide (np ≤ xs.length) &&
  xs.all fun x => fd.scope.names.lookup x == some .local || fd.scope.names.lookup x == some .cell && fd.scope.names.contains (x, .cell))))))))))))
noncomputable def fnFit (K : Frag) (f : Nat) (np : Nat) (xs : List Str) (b : Ss) : Bool := match K.lookup f with
  | some o => (match o.data with | .func fd => fdFit K fd np xs b | _ => false)
  | none => false
theorem fn_ok (bs : Base w B) (tb : Tabs B) {f np : Nat} {xs : List Str} {b : Ss} (hf : fnFit (K w.params) f np xs b = true) {vs : List V} {h : H} {Q : K1} (hv : vs.length = np)
    (q : wpSs (G w B n) b (vs.map some ++ List.replicate (xs.length - np) none) h fun fl _ h' => match fl with | .ret v => Q v h' | .next => Q .none h' | .brk => False) : G w B (n + 1) f vs h Q := by
  intro A ρ s vals R hr rvs
  unfold fnFit at hf
  cases ho : (K w.params).lookup f with
  | none => rw [ho] at hf; cases hf
  | some o =>
    rw [ho] at hf
    dsimp only at hf
    obtain ⟨fd, hd, hf⟩ : ∃ fd, o.data = .func fd ∧ fdFit (K w.params) fd np xs b = true := by
      split at hf
      · rename_i fd hd; exact ⟨fd, hd, hf⟩
      · cases hf
    have hget : s.heap.get? f = some o := hr.base _ _ (bs.k _ _ ho)
    unfold fdFit at hf
    refine and13 hf fun c1 c2 c3 c4 c5 c6 c7 c8 c9 c10 c11 c12 c13 => ?_
    obtain ⟨body, hbody, c1⟩ : ∃ body, fd.body = .stmts body ∧ mSs fd.scope.names xs b body = true := by
      split at c1
      · exact ⟨_, by assumption, c1⟩
      · cases c1
    obtain ⟨ps, hps, c2⟩ : ∃ ps, fd.params = ⟨[], ps, none, [], [], none, []⟩ ∧ ps.map (·.arg) = xs.take np := by
      exact on_out c2 fun z h => ⟨z.1, z.2, beq_iff_eq.mp h⟩
    have hkind : fd.scope.kind = .function := beq_iff_eq.mp c5
    have hco : fd.scope.isCoroutine = false := by simpa using c6
    have hge : fd.scope.isGenerator = false := by simpa using c7
    have hgl : fd.globals = mainGlobals := beq_iff_eq.mp c8
    have hbl : fd.builtins = builtinsNs := beq_iff_eq.mp c9
    have hcl : fd.closure = [] := List.isEmpty_iff.mp c4
    have nd : xs.Nodup := of_decide_eq_true c11
    have hnp : np ≤ xs.length := of_decide_eq_true c12
    have hcode : s.heap.CodeRec fd.code fd.qualname := by
      split at c10
      · rename_i c hc
        have hm := List.contains_iff_mem.mp c10
        have := bs.codes _ hm
        unfold codeQual at this
        split at this
        · rename_i vs' sl hg
          split at this
          · rename_i x t hx
            cases this
            exact ⟨c, _, vs', t, hc, hr.base _ _ hg, rfl, hx⟩
          · cases this
        · cases this
      · cases c10
    have hlv : vals.length = ps.length := by
      have e1 := rvs.length
      have e2 := congrArg List.length c2
      rw [List.length_map, List.length_take] at e2
      omega
    have ndp : (ps.map (·.arg)).Nodup := by rw [c2]; exact nd.sublist (List.take_sublist _ _)
    have hxk : ∀ x ∈ xs, fd.scope.names.lookup x = some .local ∨ (fd.scope.names.lookup x = some .cell ∧ (x, NameKind.cell) ∈ fd.scope.names) := fun x hx => by
      have := List.all_eq_true.mp c13 x hx
      rcases Bool.or_eq_true_iff.mp this with h1 | h1
      · exact .inl (beq_iff_eq.mp h1)
      · refine and2 h1 fun h2 h3 => ?_
        exact .inr ⟨beq_iff_eq.mp h2, List.contains_iff_mem.mp h3⟩
    have hxc : ∀ x ∈ xs, fd.scope.names.lookup x = some .cell → ((cellsFrom (s.heap.objs.size + 1) fd.scope.names []).lookup x).isSome = true := fun x hx e => by
      rcases hxk x hx with h1 | h1
      · rw [e] at h1; cases h1
      · exact cellsFrom_some _ _ _ (.inr h1.2)
    refine .call (cX_function (by have := R.depth; omega) hget hd hco hge hbody hcode ?_)
    rw [bind_plain hps (isNoneV_of c3) hlv ndp, c2, hcl]
    refine wpAny_pure (wpAny_newFunctionEnv_cells hkind (fun x hx => ?_) fun env he s₁ x => ?_)
    · have hx' : x.1 ∈ xs := List.mem_of_mem_take (List.of_mem_zip (show (x.1, x.2) ∈ (xs.take np).zip vals from hx)).1
      rcases hxk x.1 hx' with h1 | h1
      · exact .inl h1
      · exact .inr ⟨h1.1, hxc _ hx' h1.1⟩
    · have hsc : env.scope = fd.scope := by rw [he]; rfl
      have hlo : env.locals = s.heap.objs.size := by rw [he]; rfl
      have hce : env.cells = cellsFrom (s.heap.objs.size + 1) fd.scope.names [] := by rw [he]; rfl
      have hcab : ∀ y c, env.cells.lookup y = some c → s.heap.objs.size < c := fun y c hc => by rw [← hlo]; exact x.above y c (mem_of_lookup hc)
      have hkf : ∀ y, env.kindOf y = fd.scope.names.lookup y := fun y => by unfold Env.kindOf; rw [hsc]
      have lr : LR w B ρ env fd.scope.names xs (vs.map some ++ List.replicate (xs.length - np) none) s₁ := by
        have at_ : ∀ (i : Nat) y v, xs[i]? = some y → (vs.map some ++ List.replicate (xs.length - np) none)[i]? = some (some v) → (xs.take np)[i]? = some y ∧ ∃ val, vals[i]? = some val ∧ RV ρ v val := fun i y v h1 h2 => by
          have hi : i < vs.length := by
            rcases Nat.lt_or_ge i vs.length with hi | hi
            · exact hi
            · rw [List.getElem?_append_right (by simpa using hi), List.getElem?_replicate] at h2
              split at h2 <;> cases h2
          rw [List.getElem?_append_left (by simpa using hi), List.getElem?_map] at h2
          obtain ⟨v', hv', e⟩ := Option.map_eq_some_iff.mp h2
          cases e
          obtain ⟨val, hval, rv⟩ := rvs.get hv'
          exact ⟨by rw [List.getElem?_take, if_pos (by omega)]; exact h1, val, hval, rv⟩
        have ndt : (xs.take np).Nodup := nd.sublist (List.take_sublist _ _)
        refine ⟨by rw [hsc]; exact hkind, by rw [hsc], by rw [he]; exact hgl, by rw [he]; exact hbl, by simp [hv]; omega, nd, ⟨_, x.toInCall.ns, fun i y h1 h2 v h3 => ?_⟩, fun i y h1 h2 => ?_, fun y c hc => ?_, fun a ha => ?_, fun y c hc => ?_, fun y z c hy hz => ?_⟩
        · refine hide fun gp gg => ?_; obtain ⟨h4, val, h5, rv⟩ := at_ i y v h1 h3; refine gg ?_; clear gg gp
          exact ⟨val, bindL_at ((hkf y).trans h2) _ _ i _ ndt h4 h5, rv⟩
        · have hy : y ∈ xs := List.mem_of_getElem? h1
          have hk2 : fd.scope.names.lookup y = some .cell := by
            rcases h2 with h2 | h2
            · exact h2
            · rcases hxk y hy with h3 | h3
              · rw [h2] at h3; cases h3
              · rw [h2] at h3; cases h3.1
          obtain ⟨c, hc⟩ := Option.isSome_iff_exists.mp (hxc y hy hk2)
          refine ⟨c, _, by rw [hce]; exact hc, x.cell y c (by rw [hce]; exact hc), fun v h3 => ?_⟩
          refine hide fun gp gg => ?_; obtain ⟨h4, val, h5, rv⟩ := at_ i y v h1 h3; refine gg ?_; clear gg gp
          exact ⟨val, bindC_at ((hkf y).trans hk2) _ _ i _ ndt h4 h5, rv⟩
        · obtain ⟨o, ho, _⟩ := x.cell y c hc
          exact ⟨o, ho⟩
        · have hle : s.heap.objs.size ≤ a := by
            rcases ha with rfl | ⟨y, hy⟩
            · rw [hlo]; exact Nat.le_refl _
            · exact Nat.le_of_lt (hcab y a hy)
          exact ⟨(hr.new hle).1, fun p hp => ⟨Nat.ne_of_gt (Nat.lt_of_lt_of_le (hr.lt hp).1 hle), Nat.ne_of_gt (Nat.lt_of_lt_of_le (hr.lt hp).2 hle)⟩⟩
        · rw [hlo]; exact Nat.ne_of_gt (hcab y c hc)
        · exact name_of_addr x.apart (mem_of_lookup hy) (mem_of_lookup hz)
      have keep := x.toInCall.keep
      obtain ⟨h', tk, es⟩ := x.toInCall.same
      have hr1 : HR w B ρ h s₁ := by rw [es] at keep ⊢; exact hr.more keep
      have st1 : Step ρ ρ s s₁ := by rw [es] at keep ⊢; exact .more keep
      have ow : Own env s := ⟨by rw [hlo]; exact get_big (Nat.le_refl _), fun y c hc => get_big (Nat.le_of_lt (hcab y c hc))⟩
      refine ⟨bs.lim.keeps fun b o e => keep _ _ (hr.base _ _ e), cX_func ?_⟩
      have R2 : Room (A.deeper env) n := ⟨R.handled, by have := R.depth; show A.depth + 1 + 4 * n + 4 < _; omega, by have := R.units; show A.units + 3 + 8 * n + 8 < _; omega⟩
      refine (execsOk bs tb b _ c1 (A.deeper env) ρ _ h s₁ _ R2 hr1 lr q).mono fun f s₂ zz0 => ?_
      refine hide fun gp gg => ?_; obtain ⟨fl, l₂, h₂, ρ₂, q2, rf, hr2, lr2, g2⟩ := zz0; refine gg ?_; clear gg gp
      have st2 := g2.step st1 hr1 ow
      cases fl with
      | next => cases rf; exact ⟨_, rfl, .none, h₂, ρ₂, q2, rfl, hr2, st2⟩
      | brk => exact q2.elim
      | ret v => obtain ⟨val, rfl, rv⟩ := rf; exact ⟨_, rfl, v, h₂, ρ₂, q2, rv, hr2, st2⟩
end
end Mine
end
section
set_option maxRecDepth 100000
namespace Mine
open PySem PySem.W PyProof.Rows
/- ==== the text's functions in the small language (printed by gen_bodies.py) ==== -/
noncomputable def lb_put_whole_0 : Ss := (.cons (.asg (.one (.sub (.loc 2) (.loc 3))) (.bin .Mod (.loc 0) (.int 256))) (.cons (.asg (.one (.loc 0)) (.bin .FloorDiv (.loc 0) (.int 256))) .nil))
noncomputable def tl_put_whole_3 : Ss := (.cons (.ret (.mkBytes (.loc 2))) .nil)
noncomputable def tl_put_whole_1 : Ss := (.cons (.asg (.one (.loc 2)) (.mkBarr (.loc 1))) (.cons (.for 3 (.range3 (.bin .Sub (.loc 1) (.int 1)) (.neg (.int 1))) lb_put_whole_0) tl_put_whole_3))
noncomputable def x_put_whole : List Str := ["n", "size", "found", "place"]
noncomputable def b_put_whole : Ss := (.cons (.ite (.or (.cons (.cmp .Lt (.loc 0) (.int 0)) (.cons (.cmp .NotEq (.bin .RShift (.loc 0) (.bin .Mult (.int 8) (.loc 1))) (.int 0)) .nil))) (.cons .raise .nil) .nil) tl_put_whole_1)
noncomputable def lb_get_whole_0 : Ss := (.cons (.asg (.one (.loc 3)) (.bin .Add (.bin .Mult (.loc 3) (.int 256)) (.loc 4))) .nil)
noncomputable def tl_get_whole_3 : Ss := (.cons (.ret (.loc 3)) .nil)
noncomputable def tl_get_whole_1 : Ss := (.cons (.asg (.one (.loc 3)) (.int 0)) (.cons (.for 4 (.e (.slc (.loc 0) (.loc 1) (.bin .Add (.loc 1) (.loc 2)))) lb_get_whole_0) tl_get_whole_3))
noncomputable def x_get_whole : List Str := ["data", "at", "size", "found", "octet"]
noncomputable def b_get_whole : Ss := (.cons (.ite (.cmp .Gt (.bin .Add (.loc 1) (.loc 2)) (.len (.loc 0))) (.cons .raise .nil) .nil) tl_get_whole_1)
noncomputable def lb_varint_size_0 : Ss := (.cons (.ite (.cmp2 .LtE .Lt (.int 0) (.loc 0) (.bin .LShift (.int 1) (.bin .Sub (.bin .Mult (.int 8) (.loc 1)) (.int 2)))) (.cons (.ret (.loc 1)) .nil) .nil) .nil)
noncomputable def tl_varint_size_1 : Ss := (.cons .raise .nil)
noncomputable def x_varint_size : List Str := ["n", "size"]
noncomputable def b_varint_size : Ss := (.cons (.for 1 (.e (.cst "VARINT_SIZES" (.sizes))) lb_varint_size_0) tl_varint_size_1)
noncomputable def tl_put_varint_3 : Ss := (.cons (.ret (.call 82 (.cons (.bin .BitOr (.bin .LShift (.index (.cst "VARINT_SIZES" (.sizes)) (.loc 1)) (.bin .Sub (.bin .Mult (.int 8) (.loc 1)) (.int 2))) (.loc 0)) (.cons (.loc 1) .nil)))) .nil)
noncomputable def tl_put_varint_2 : Ss := (.cons (.ite (.or (.cons (.cmp .Lt (.loc 1) (.loc 2)) (.cons (.cmp .NotIn (.loc 1) (.cst "VARINT_SIZES" (.sizes))) .nil))) (.cons .raise .nil) .nil) tl_put_varint_3)
noncomputable def tl_put_varint_1 : Ss := (.cons (.ite (.cmp .Is (.loc 1) .none) (.cons (.asg (.one (.loc 1)) (.loc 2)) .nil) .nil) tl_put_varint_2)
noncomputable def x_put_varint : List Str := ["n", "size", "least"]
noncomputable def b_put_varint : Ss := (.cons (.asg (.one (.loc 2)) (.call 96 (.cons (.loc 0) .nil))) tl_put_varint_1)
noncomputable def tl_get_varint_1 : Ss := (.cons (.asg (.one (.loc 2)) (.idx (.cst "VARINT_SIZES" (.sizes)) (.bin .RShift (.idx (.loc 0) (.loc 1)) (.int 6)))) (.cons (.ret (.tup (.cons (.bin .BitAnd (.call 89 (.cons (.loc 0) (.cons (.loc 1) (.cons (.loc 2) .nil)))) (.bin .Sub (.bin .LShift (.int 1) (.bin .Sub (.bin .Mult (.int 8) (.loc 2)) (.int 2))) (.int 1))) (.cons (.bin .Add (.loc 1) (.loc 2)) .nil)))) .nil))
noncomputable def x_get_varint : List Str := ["data", "at", "size"]
noncomputable def b_get_varint : Ss := (.cons (.ite (.cmp .GtE (.loc 1) (.len (.loc 0))) (.cons .raise .nil) .nil) tl_get_varint_1)
noncomputable def x_Reader_init : List Str := ["self", "data"]
noncomputable def b_Reader_init : Ss := (.cons (.asg (.one (.attr (.loc 0) .data)) (.loc 1)) (.cons (.asg (.one (.attr (.loc 0) .at_)) (.int 0)) .nil))
noncomputable def x_Reader_left : List Str := ["self"]
noncomputable def b_Reader_left : Ss := (.cons (.ret (.bin .Sub (.len (.attr (.loc 0) .data)) (.attr (.loc 0) .at_))) .nil)
noncomputable def tl_Reader_take_1 : Ss := (.cons (.aug (.loc 0) .at_ .Add (.loc 1)) (.cons (.ret (.slc (.attr (.loc 0) .data) (.bin .Sub (.attr (.loc 0) .at_) (.loc 1)) (.attr (.loc 0) .at_))) .nil))
noncomputable def x_Reader_take : List Str := ["self", "many"]
noncomputable def b_Reader_take : Ss := (.cons (.ite (.cmp .Gt (.loc 1) (.meth (.loc 0) 131 .nil)) (.cons .raise .nil) .nil) tl_Reader_take_1)
noncomputable def tl_Reader_whole_1 : Ss := (.cons (.aug (.loc 0) .at_ .Add (.loc 1)) (.cons (.ret (.loc 2)) .nil))
noncomputable def x_Reader_whole : List Str := ["self", "size", "found"]
noncomputable def b_Reader_whole : Ss := (.cons (.asg (.one (.loc 2)) (.call 89 (.cons (.attr (.loc 0) .data) (.cons (.attr (.loc 0) .at_) (.cons (.loc 1) .nil))))) tl_Reader_whole_1)
noncomputable def tl_Reader_varint_1 : Ss := (.cons (.ret (.loc 1)) .nil)
noncomputable def x_Reader_varint : List Str := ["self", "found"]
noncomputable def b_Reader_varint : Ss := (.cons (.asg (.tup [(.loc 1), (.attr (.loc 0) .at_)]) (.call 110 (.cons (.attr (.loc 0) .data) (.cons (.attr (.loc 0) .at_) .nil)))) tl_Reader_varint_1)
noncomputable def x_RawPacket_init : List Str := ["self", "kind", "first", "dcid", "start"]
noncomputable def b_RawPacket_init : Ss := (.cons (.asg (.one (.attr (.loc 0) .kind)) (.loc 1)) (.cons (.asg (.one (.attr (.loc 0) .first)) (.loc 2)) (.cons (.asg (.one (.attr (.loc 0) .version)) (.cst "VERSION_NONE" (.int 0))) (.cons (.asg (.one (.attr (.loc 0) .dcid)) (.loc 3)) (.cons (.asg (.one (.attr (.loc 0) .scid)) (.bytes [])) (.cons (.asg (.one (.attr (.loc 0) .token)) (.bytes [])) (.cons (.asg (.one (.attr (.loc 0) .tag)) (.bytes [])) (.cons (.asg (.one (.attr (.loc 0) .versions)) (.lst .nil)) (.cons (.asg (.one (.attr (.loc 0) .start)) (.loc 4)) (.cons (.asg (.one (.attr (.loc 0) .number_at)) (.loc 4)) (.cons (.asg (.one (.attr (.loc 0) .end_)) (.loc 4)) .nil)))))))))))
noncomputable def x_put_ids : List Str := ["dcid", "scid"]
noncomputable def b_put_ids : Ss := (.cons (.ret (.bin .Add (.bin .Add (.bin .Add (.mkBytes (.lst (.cons (.len (.loc 0)) .nil))) (.loc 0)) (.mkBytes (.lst (.cons (.len (.loc 1)) .nil)))) (.loc 1))) .nil)
noncomputable def x_long_first : List Str := ["kind", "low_bits"]
noncomputable def b_long_first : Ss := (.cons (.ret (.bin .Add (.bin .Add (.int 192) (.bin .Mult (.int 16) (.index (.cst "LONG_KINDS" (.kinds)) (.loc 0)))) (.loc 1))) .nil)
noncomputable def tl_long_head_2 : Ss := (.cons (.ret (.bin .Add (.loc 7) (.call 103 (.cons (.loc 5) (.cons .none .nil))))) .nil)
noncomputable def tl_long_head_1 : Ss := (.cons (.ite (.cmp .Eq (.loc 0) (.str .initial)) (.cons (.asg (.one (.loc 7)) (.bin .Add (.bin .Add (.loc 7) (.call 103 (.cons (.len (.loc 4)) (.cons .none .nil)))) (.loc 4))) .nil) .nil) tl_long_head_2)
noncomputable def x_long_head : List Str := ["kind", "version", "dcid", "scid", "token", "rest_size", "number_size", "head"]
noncomputable def b_long_head : Ss := (.cons (.asg (.one (.loc 7)) (.bin .Add (.bin .Add (.mkBytes (.lst (.cons (.call 202 (.cons (.loc 0) (.cons (.bin .Sub (.loc 6) (.int 1)) .nil))) .nil))) (.call 82 (.cons (.loc 1) (.cons (.int 4) .nil)))) (.call 195 (.cons (.loc 2) (.cons (.loc 3) .nil))))) tl_long_head_1)
noncomputable def tl_put_negotiation_1 : Ss := (.cons (.ret (.bin .Add (.bin .Add (.bin .Add (.mkBytes (.lst (.cons (.bin .Add (.int 128) (.bin .Mod (.loc 0) (.int 128))) .nil))) (.call 82 (.cons (.cst "VERSION_NONE" (.int 0)) (.cons (.int 4) .nil)))) (.call 195 (.cons (.loc 1) (.cons (.loc 2) .nil)))) (.join (.bytes []) (.loc 4)))) .nil)
noncomputable def x_put_negotiation : List Str := ["low_bits", "dcid", "scid", "versions", "rows"]
noncomputable def b_put_negotiation : Ss := (.cons (.asg (.one (.loc 4)) (.comp [] (.call 82 (.cons (.loc 0) (.cons (.int 4) .nil))) (.loc 3))) tl_put_negotiation_1)
noncomputable def tl_put_retry_1 : Ss := (.cons (.ret (.bin .Add (.bin .Add (.bin .Add (.loc 6) (.call 195 (.cons (.loc 2) (.cons (.loc 3) .nil)))) (.loc 4)) (.loc 5))) .nil)
noncomputable def x_put_retry : List Str := ["low_bits", "version", "dcid", "scid", "token", "tag", "head"]
noncomputable def b_put_retry : Ss := (.cons (.asg (.one (.loc 6)) (.bin .Add (.mkBytes (.lst (.cons (.call 202 (.cons (.str .retry) (.cons (.bin .Mod (.loc 0) (.int 16)) .nil))) .nil))) (.call 82 (.cons (.loc 1) (.cons (.int 4) .nil))))) tl_put_retry_1)
noncomputable def tl_read_invariants_5 : Ss := (.cons (.ret (.tup (.cons (.loc 3) (.cons (.loc 4) (.cons (.loc 5) (.cons (.loc 6) (.cons (.attr (.loc 2) .at_) .nil))))))) .nil)
noncomputable def tl_read_invariants_4 : Ss := (.cons (.asg (.one (.loc 6)) (.meth (.loc 2) 138 (.cons (.meth (.loc 2) 152 (.cons (.int 1) .nil)) .nil))) tl_read_invariants_5)
noncomputable def tl_read_invariants_3 : Ss := (.cons (.asg (.one (.loc 5)) (.meth (.loc 2) 138 (.cons (.meth (.loc 2) 152 (.cons (.int 1) .nil)) .nil))) tl_read_invariants_4)
noncomputable def tl_read_invariants_1 : Ss := (.cons (.asg (.one (.attr (.loc 2) .at_)) (.loc 1)) (.cons (.asg (.rev [(.loc 3), (.loc 4)]) (.tup (.cons (.meth (.loc 2) 152 (.cons (.int 1) .nil)) (.cons (.meth (.loc 2) 152 (.cons (.int 4) .nil)) .nil)))) tl_read_invariants_3))
noncomputable def x_read_invariants : List Str := ["data", "start", "reader", "first", "version", "dcid", "scid"]
noncomputable def b_read_invariants : Ss := (.cons (.asg (.one (.loc 2)) (.mk .reader (.cons (.loc 0) .nil))) tl_read_invariants_1)
noncomputable def lb_read_versions_0 : Ss := (.cons (.expr (.append (.loc 3) (.meth (.loc 2) 152 (.cons (.int 4) .nil)))) .nil)
noncomputable def tl_read_versions_4 : Ss := (.cons (.ret (.loc 3)) .nil)
noncomputable def tl_read_versions_3 : Ss := (.cons (.while (.cmp .Gt (.meth (.loc 2) 131 .nil) (.int 0)) lb_read_versions_0) tl_read_versions_4)
noncomputable def tl_read_versions_2 : Ss := (.cons (.asg (.one (.attr (.loc 2) .at_)) (.loc 1)) tl_read_versions_3)
noncomputable def tl_read_versions_1 : Ss := (.cons (.asg (.rev [(.loc 2), (.loc 3)]) (.tup (.cons (.mk .reader (.cons (.loc 0) .nil)) (.cons (.lst .nil) .nil)))) tl_read_versions_2)
noncomputable def x_read_versions : List Str := ["data", "at", "reader", "found"]
noncomputable def b_read_versions : Ss := (.cons (.ite (.or (.cons (.cmp .NotEq (.bin .Mod (.bin .Sub (.len (.loc 0)) (.loc 1)) (.int 4)) (.int 0)) (.cons (.cmp .Eq (.loc 1) (.len (.loc 0))) .nil))) (.cons .raise .nil) .nil) tl_read_versions_1)
noncomputable def tl_read_long_6 : Ss := (.cons (.asg (.one (.attr (.loc 7) .kind)) (.idx (.cst "LONG_KINDS" (.kinds)) (.bin .Mod (.bin .FloorDiv (.loc 2) (.int 16)) (.int 4)))) (.cons (.ret (.ite (.cmp .Eq (.attr (.loc 7) .kind) (.str .retry)) (.call 249 (.cons (.loc 0) (.cons (.loc 6) (.cons (.loc 7) .nil)))) (.call 256 (.cons (.loc 0) (.cons (.loc 6) (.cons (.loc 7) .nil)))))) .nil))
noncomputable def tl_read_long_5 : Ss := (.cons (.ite (.or (.cons (.cmp .Gt (.len (.loc 4)) (.cst "MOST_CID" (.int 20))) (.cons (.cmp .Gt (.len (.loc 5)) (.cst "MOST_CID" (.int 20))) (.cons (.cmp .Eq (.bin .Mod (.bin .FloorDiv (.loc 2) (.int 64)) (.int 2)) (.int 0)) .nil)))) (.cons .raise .nil) .nil) tl_read_long_6)
noncomputable def tl_read_long_4 : Ss := (.cons (.ite (.cmp .NotEq (.loc 3) (.cst "VERSION_ONE" (.int 1))) (.cons (.asg (.one (.attr (.loc 7) .kind)) (.str .unknown)) (.cons (.ret (.loc 7)) .nil)) .nil) tl_read_long_5)
noncomputable def tl_read_long_3 : Ss := (.cons (.ite (.cmp .Eq (.loc 3) (.cst "VERSION_NONE" (.int 0))) (.cons (.asg (.one (.attr (.loc 7) .versions)) (.call 235 (.cons (.loc 0) (.cons (.loc 6) .nil)))) (.cons (.ret (.loc 7)) .nil)) .nil) tl_read_long_4)
noncomputable def tl_read_long_2 : Ss := (.cons (.asg (.tup [(.attr (.loc 7) .version), (.attr (.loc 7) .scid), (.attr (.loc 7) .end_)]) (.tup (.cons (.loc 3) (.cons (.loc 5) (.cons (.len (.loc 0)) .nil))))) tl_read_long_3)
noncomputable def tl_read_long_1 : Ss := (.cons (.asg (.one (.loc 7)) (.mk .raw (.cons (.str .negotiation) (.cons (.loc 2) (.cons (.loc 4) (.cons (.loc 1) .nil)))))) tl_read_long_2)
noncomputable def x_read_long : List Str := ["data", "start", "first", "version", "dcid", "scid", "at", "raw"]
noncomputable def b_read_long : Ss := (.cons (.try_ (.cons (.asg (.tup [(.loc 2), (.loc 3), (.loc 4), (.loc 5), (.loc 6)]) (.call 228 (.cons (.loc 0) (.cons (.loc 1) .nil)))) .nil)) tl_read_long_1)
noncomputable def tl_read_retry_1 : Ss := (.cons (.asg (.tup [(.attr (.loc 2) .token), (.attr (.loc 2) .tag)]) (.tup (.cons (.slc (.loc 0) (.loc 1) (.bin .Sub (.len (.loc 0)) (.cst "RETRY_TAG" (.int 16)))) (.cons (.slcF (.loc 0) (.bin .Sub (.len (.loc 0)) (.cst "RETRY_TAG" (.int 16)))) .nil)))) (.cons (.ret (.loc 2)) .nil))
noncomputable def x_read_retry : List Str := ["data", "at", "raw"]
noncomputable def b_read_retry : Ss := (.cons (.ite (.cmp .Lt (.bin .Sub (.len (.loc 0)) (.loc 1)) (.cst "RETRY_TAG" (.int 16))) (.cons .raise .nil) .nil) tl_read_retry_1)
noncomputable def tl_read_numbered_4 : Ss := (.cons (.asg (.tup [(.attr (.loc 2) .number_at), (.attr (.loc 2) .end_)]) (.tup (.cons (.attr (.loc 3) .at_) (.cons (.bin .Add (.attr (.loc 3) .at_) (.loc 4)) .nil)))) (.cons (.ret (.loc 2)) .nil))
noncomputable def tl_read_numbered_3 : Ss := (.cons (.ite (.cmp .Gt (.loc 4) (.meth (.loc 3) 131 .nil)) (.cons .raise .nil) .nil) tl_read_numbered_4)
noncomputable def tl_read_numbered_1 : Ss := (.cons (.asg (.one (.attr (.loc 3) .at_)) (.loc 1)) (.cons (.try_ (.cons (.ite (.cmp .Eq (.attr (.loc 2) .kind) (.str .initial)) (.cons (.asg (.one (.attr (.loc 2) .token)) (.meth (.loc 3) 138 (.cons (.meth (.loc 3) 159 .nil) .nil))) .nil) .nil) (.cons (.asg (.one (.loc 4)) (.meth (.loc 3) 159 .nil)) .nil))) tl_read_numbered_3))
noncomputable def x_read_numbered : List Str := ["data", "at", "raw", "reader", "size"]
noncomputable def b_read_numbered : Ss := (.cons (.asg (.one (.loc 3)) (.mk .reader (.cons (.loc 0) .nil))) tl_read_numbered_1)
noncomputable def x_read_raw : List Str := ["data", "start", "cid_size"]
noncomputable def b_read_raw : Ss := (.cons (.ret (.ite (.cmp .GtE (.idx (.loc 0) (.loc 1)) (.int 128)) (.call 242 (.cons (.loc 0) (.cons (.loc 1) .nil))) (.call 263 (.cons (.loc 0) (.cons (.loc 1) (.cons (.loc 2) .nil)))))) .nil)
noncomputable def tl_lb_split_datagram_0_2 : Ss := (.cons (.asg (.one (.loc 3)) (.attr (.loc 4) .end_)) .nil)
noncomputable def tl_lb_split_datagram_0_1 : Ss := (.cons (.ite (.or (.cons (.cmp .Eq (.len (.loc 2)) (.int 0)) (.cons (.cmp .Eq (.attr (.loc 4) .dcid) (.attr (.idx (.loc 2) (.int 0)) .dcid)) .nil))) (.cons (.expr (.append (.loc 2) (.loc 4))) .nil) .nil) tl_lb_split_datagram_0_2)
noncomputable def lb_split_datagram_0 : Ss := (.cons (.try_ (.cons (.asg (.one (.loc 4)) (.call 270 (.cons (.loc 0) (.cons (.loc 3) (.cons (.loc 1) .nil))))) .nil)) tl_lb_split_datagram_0_1)
noncomputable def tl_split_datagram_2 : Ss := (.cons (.ret (.loc 2)) .nil)
noncomputable def tl_split_datagram_1 : Ss := (.cons (.while (.cmp .Lt (.loc 3) (.len (.loc 0))) lb_split_datagram_0) tl_split_datagram_2)
noncomputable def x_split_datagram : List Str := ["data", "cid_size", "found", "at", "raw"]
noncomputable def b_split_datagram : Ss := (.cons (.asg (.rev [(.loc 2), (.loc 3)]) (.tup (.cons (.lst .nil) (.cons (.int 0) .nil)))) tl_split_datagram_1)
noncomputable def lb_mixed_octets_0 : Ss := (.cons (.asg (.one (.loc 2)) (.bin .Mod (.bin .Add (.bin .Add (.bin .Mult (.loc 2) (.cst "FACTOR" (.int 6364136223846793005))) (.loc 3)) (.int 1)) (.cst "MODULUS" (.int 170141183460469231731687303715884105727)))) .nil)
noncomputable def tl_mixed_octets_2 : Ss := (.cons (.ret (.loc 2)) .nil)
noncomputable def x_mixed_octets : List Str := ["start", "data", "found", "octet"]
noncomputable def b_mixed_octets : Ss := (.cons (.asg (.one (.loc 2)) (.bin .Mod (.loc 0) (.cst "MODULUS" (.int 170141183460469231731687303715884105727)))) (.cons (.for 3 (.e (.loc 1)) lb_mixed_octets_0) tl_mixed_octets_2))
noncomputable def lb_turned_octets_0 : Ss := (.cons (.asg (.one (.loc 3)) (.bin .Mod (.bin .Add (.bin .Mult (.loc 3) (.cst "FACTOR" (.int 6364136223846793005))) (.int 1442695040888963407)) (.cst "MODULUS" (.int 170141183460469231731687303715884105727)))) (.cons (.expr (.append (.loc 4) (.bin .BitXor (.loc 5) (.bin .Mod (.bin .FloorDiv (.loc 3) (.int 65536)) (.int 256))))) .nil))
noncomputable def tl_turned_octets_2 : Ss := (.cons (.ret (.mkBytes (.loc 4))) .nil)
noncomputable def tl_turned_octets_1 : Ss := (.cons (.for 5 (.e (.loc 2)) lb_turned_octets_0) tl_turned_octets_2)
noncomputable def x_turned_octets : List Str := ["key", "number", "data", "state", "found", "octet"]
noncomputable def b_turned_octets : Ss := (.cons (.asg (.rev [(.loc 3), (.loc 4)]) (.tup (.cons (.call 284 (.cons (.call 284 (.cons (.bin .Add (.loc 1) (.int 1)) (.cons (.loc 0) .nil))) (.cons (.bytes [98, 111, 100, 121]) .nil))) (.cons (.lst .nil) .nil)))) tl_turned_octets_1)
noncomputable def tl_tag_of_1 : Ss := (.cons (.ret (.call 82 (.cons (.loc 4) (.cons (.cst "TAG_SIZE" (.int 16)) .nil)))) .nil)
noncomputable def x_tag_of : List Str := ["key", "number", "head", "body", "state"]
noncomputable def b_tag_of : Ss := (.cons (.asg (.one (.loc 4)) (.call 284 (.cons (.call 284 (.cons (.bin .Add (.loc 1) (.int 1)) (.cons (.loc 0) .nil))) (.cons (.bin .Add (.bin .Add (.call 82 (.cons (.len (.loc 2)) (.cons (.int 4) .nil))) (.loc 2)) (.loc 3)) .nil)))) tl_tag_of_1)
noncomputable def tl_seal_payload_1 : Ss := (.cons (.ret (.bin .Add (.loc 4) (.call 298 (.cons (.loc 0) (.cons (.loc 1) (.cons (.loc 2) (.cons (.loc 4) .nil))))))) .nil)
noncomputable def x_seal_payload : List Str := ["key", "number", "head", "payload", "body"]
noncomputable def b_seal_payload : Ss := (.cons (.asg (.one (.loc 4)) (.call 291 (.cons (.loc 0) (.cons (.loc 1) (.cons (.loc 3) .nil))))) tl_seal_payload_1)
noncomputable def x_head_mask : List Str := ["key", "sample"]
noncomputable def b_head_mask : Ss := (.cons (.ret (.slcF (.call 82 (.cons (.call 284 (.cons (.call 284 (.cons (.int 7) (.cons (.loc 0) .nil))) (.cons (.loc 1) .nil))) (.cons (.cst "TAG_SIZE" (.int 16)) .nil))) (.bin .Sub (.cst "TAG_SIZE" (.int 16)) (.cst "MASK_SIZE" (.int 5))))) .nil)
noncomputable def x_turned_first : List Str := ["first", "mask"]
noncomputable def b_turned_first : Ss := (.cons (.ret (.bin .BitXor (.loc 0) (.bin .BitAnd (.idx (.loc 1) (.int 0)) (.ite (.cmp .GtE (.loc 0) (.int 128)) (.int 15) (.int 31))))) .nil)
noncomputable def x_turned_number : List Str := ["octets", "mask"]
noncomputable def b_turned_number : Ss := (.cons (.ret (.mkBytes (.compEn [1] (.bin .BitXor (.loc 1) (.idx (.loc 2) (.bin .Add (.int 1) (.loc 0)))) (.loc 0)))) .nil)
noncomputable def tl_sample_at_1 : Ss := (.cons (.ret (.slc (.loc 0) (.bin .Add (.loc 1) (.int 4)) (.bin .Add (.bin .Add (.loc 1) (.int 4)) (.cst "SAMPLE_SIZE" (.int 16))))) .nil)
noncomputable def x_sample_at : List Str := ["data", "number_at", "end"]
noncomputable def b_sample_at : Ss := (.cons (.ite (.cmp .Gt (.bin .Add (.bin .Add (.loc 1) (.int 4)) (.cst "SAMPLE_SIZE" (.int 16))) (.loc 2)) (.cons (.ret .none) .nil) .nil) tl_sample_at_1)
noncomputable def x_padded_payload : List Str := ["payload", "number_size", "lacking"]
noncomputable def b_padded_payload : Ss := (.cons (.asg (.one (.loc 2)) (.bin .Sub (.bin .Sub (.int 4) (.loc 1)) (.len (.loc 0)))) (.cons (.ret (.ite (.cmp .Gt (.loc 2) (.int 0)) (.bin .Add (.loc 0) (.mkBytes (.loc 2))) (.loc 0))) .nil))
noncomputable def tl_protected_packet_4 : Ss := (.cons (.ret (.bin .Add (.bin .Add (.bin .Add (.mkBytes (.lst (.cons (.call 319 (.cons (.idx (.loc 2) (.int 0)) (.cons (.loc 8) .nil))) .nil))) (.slcF (.loc 2) (.int 1))) (.call 324 (.cons (.loc 3) (.cons (.loc 8) .nil)))) (.loc 6))) .nil)
noncomputable def tl_protected_packet_2 : Ss := (.cons (.asg (.one (.loc 7)) (.bin .Add (.loc 5) (.loc 6))) (.cons (.asg (.one (.loc 8)) (.call 312 (.cons (.loc 0) (.cons (.call 331 (.cons (.loc 7) (.cons (.len (.loc 2)) (.cons (.len (.loc 7)) .nil)))) .nil)))) tl_protected_packet_4))
noncomputable def x_protected_packet : List Str := ["key", "number", "head", "cut", "payload", "whole_head", "sealed", "data", "mask"]
noncomputable def b_protected_packet : Ss := (.cons (.asg (.one (.loc 5)) (.bin .Add (.loc 2) (.loc 3))) (.cons (.asg (.one (.loc 6)) (.call 305 (.cons (.loc 0) (.cons (.loc 1) (.cons (.loc 5) (.cons (.loc 4) .nil)))))) tl_protected_packet_2))
noncomputable def x_wants_negotiation : List Str := ["raw", "size", "known"]
noncomputable def b_wants_negotiation : Ss := (.cons (.ret (.and (.cons (.cmp .Eq (.attr (.loc 0) .kind) (.str .unknown)) (.cons (.cmp .NotIn (.attr (.loc 0) .version) (.loc 2)) (.cons (.cmp .GtE (.loc 1) (.cst "LEAST_INITIAL" (.int 1200))) .nil))))) .nil)
noncomputable def x_negotiation_answer : List Str := ["raw", "low_bits", "known"]
noncomputable def b_negotiation_answer : Ss := (.cons (.ret (.call 214 (.cons (.loc 1) (.cons (.attr (.loc 0) .scid) (.cons (.attr (.loc 0) .dcid) (.cons (.loc 2) .nil)))))) .nil)
noncomputable def lb_chosen_version_0 : Ss := (.cons (.ite (.cmp .In (.loc 10) (.loc 9)) (.cons (.ret (.tup (.cons (.str .use) (.cons (.loc 10) .nil)))) .nil) .nil) .nil)
noncomputable def tl_chosen_version_3 : Ss := (.cons (.ret (.tup (.cons (.str .give_up) (.cons .none .nil)))) .nil)
noncomputable def tl_chosen_version_2 : Ss := (.cons (.for 10 (.e (.loc 4)) lb_chosen_version_0) tl_chosen_version_3)
noncomputable def x_chosen_version : List Str := ["packet", "own_version", "own_dcid", "own_scid", "known", "has_seen", "kind", "dcid", "scid", "versions", "version"]
noncomputable def b_chosen_version : Ss := (.cons (.asg (.tup [(.loc 6), (.loc 7), (.loc 8), (.loc 9)]) (.loc 0)) (.cons (.ite (.or (.cons (.loc 5) (.cons (.cmp .NotEq (.loc 7) (.loc 3)) (.cons (.cmp .NotEq (.loc 8) (.loc 2)) (.cons (.cmp .In (.loc 1) (.loc 9)) .nil))))) (.cons (.ret (.tup (.cons (.str .ignore) (.cons .none .nil)))) .nil) .nil) tl_chosen_version_2))
noncomputable def x_retry_tag : List Str := ["odcid", "head"]
noncomputable def b_retry_tag : Ss := (.cons (.ret (.call 298 (.cons (.cst "RETRY_KEY" (.bytes [114, 101, 116, 114, 121])) (.cons (.len (.loc 0)) (.cons (.loc 0) (.cons (.loc 1) .nil)))))) .nil)
noncomputable def tl_put_retry_packet_1 : Ss := (.cons (.ret (.bin .Add (.loc 6) (.call 373 (.cons (.loc 5) (.cons (.loc 6) .nil))))) .nil)
noncomputable def x_put_retry_packet : List Str := ["low_bits", "version", "dcid", "scid", "token", "odcid", "head"]
noncomputable def b_put_retry_packet : Ss := (.cons (.asg (.one (.loc 6)) (.call 221 (.cons (.loc 0) (.cons (.loc 1) (.cons (.loc 2) (.cons (.loc 3) (.cons (.loc 4) (.cons (.bytes []) .nil)))))))) tl_put_retry_packet_1)
noncomputable def tl_takes_retry_2 : Ss := (.cons (.ret (.cmp .Eq (.loc 10) (.call 373 (.cons (.loc 2) (.cons (.slcT (.loc 0) (.bin .Sub (.len (.loc 0)) (.cst "TAG_SIZE" (.int 16)))) .nil))))) .nil)
noncomputable def x_takes_retry : List Str := ["data", "packet", "own_dcid", "own_scid", "has_seen", "kind", "version", "dcid", "scid", "token", "tag"]
noncomputable def b_takes_retry : Ss := (.cons (.asg (.tup [(.loc 5), (.loc 6), (.loc 7), (.loc 8), (.loc 9), (.loc 10)]) (.loc 1)) (.cons (.ite (.or (.cons (.loc 4) (.cons (.cmp .NotEq (.loc 7) (.loc 3)) (.cons (.cmp .Eq (.loc 8) (.loc 2)) (.cons (.cmp .Eq (.len (.loc 9)) (.int 0)) .nil))))) (.cons (.ret (.bool false)) .nil) .nil) tl_takes_retry_2))
noncomputable def tl_token_for_1 : Ss := (.cons (.ret (.bin .Add (.loc 4) (.call 298 (.cons (.loc 0) (.cons (.len (.loc 1)) (.cons (.loc 1) (.cons (.loc 4) .nil))))))) .nil)
noncomputable def x_token_for : List Str := ["secret", "address", "odcid", "time", "body"]
noncomputable def b_token_for : Ss := (.cons (.asg (.one (.loc 4)) (.bin .Add (.bin .Add (.call 82 (.cons (.loc 3) (.cons (.int 8) .nil))) (.mkBytes (.lst (.cons (.len (.loc 2)) .nil)))) (.loc 2))) tl_token_for_1)
noncomputable def tl_check_token_4 : Ss := (.cons (.ret (.ite (.cmp2 .LtE .LtE (.loc 7) (.loc 3) (.bin .Add (.loc 7) (.loc 4))) (.slcF (.loc 5) (.int 9)) .none)) .nil)
noncomputable def tl_check_token_3 : Ss := (.cons (.asg (.one (.loc 7)) (.call 89 (.cons (.loc 5) (.cons (.int 0) (.cons (.int 8) .nil))))) tl_check_token_4)
noncomputable def tl_check_token_1 : Ss := (.cons (.asg (.rev [(.loc 5), (.loc 6)]) (.tup (.cons (.slcT (.loc 2) (.bin .Sub (.len (.loc 2)) (.cst "TAG_SIZE" (.int 16)))) (.cons (.idx (.loc 2) (.int 8)) .nil)))) (.cons (.ite (.or (.cons (.cmp .Gt (.loc 6) (.cst "MOST_CID" (.int 20))) (.cons (.cmp .NotEq (.len (.loc 5)) (.bin .Add (.int 9) (.loc 6))) (.cons (.cmp .NotEq (.call 298 (.cons (.loc 0) (.cons (.len (.loc 1)) (.cons (.loc 1) (.cons (.loc 5) .nil))))) (.slcF (.loc 2) (.len (.loc 5)))) .nil)))) (.cons (.ret .none) .nil) .nil) tl_check_token_3))
noncomputable def x_check_token : List Str := ["secret", "address", "token", "now", "life", "body", "size", "time"]
noncomputable def b_check_token : Ss := (.cons (.ite (.cmp .Lt (.len (.loc 2)) (.bin .Add (.int 9) (.cst "TAG_SIZE" (.int 16)))) (.cons (.ret .none) .nil) .nil) tl_check_token_1)
noncomputable def lb_number_size_0 : Ss := (.cons (.ite (.cmp .LtE (.bin .Mult (.int 2) (.loc 2)) (.bin .LShift (.int 1) (.bin .Mult (.int 8) (.loc 3)))) (.cons (.ret (.loc 3)) .nil) .nil) .nil)
noncomputable def tl_number_size_2 : Ss := (.cons .raise .nil)
noncomputable def x_number_size : List Str := ["full", "largest_acked", "apart", "size"]
noncomputable def b_number_size : Ss := (.cons (.asg (.one (.loc 2)) (.ite (.cmp .Is (.loc 1) .none) (.bin .Add (.loc 0) (.int 1)) (.bin .Sub (.loc 0) (.loc 1)))) (.cons (.for 3 (.range2 (.int 1) (.bin .Add (.cst "MOST_OCTETS" (.int 4)) (.int 1))) lb_number_size_0) tl_number_size_2))
noncomputable def tl_cut_number_1 : Ss := (.cons (.ret (.call 82 (.cons (.bin .Mod (.loc 0) (.bin .LShift (.int 1) (.bin .Mult (.int 8) (.loc 2)))) (.cons (.loc 2) .nil)))) .nil)
noncomputable def x_cut_number : List Str := ["full", "largest_acked", "size"]
noncomputable def b_cut_number : Ss := (.cons (.asg (.one (.loc 2)) (.call 408 (.cons (.loc 0) (.cons (.loc 1) .nil)))) tl_cut_number_1)
noncomputable def tl_head_of_3 : Ss := (.cons (.asg (.one (.loc 5)) (.ite (.cmp .Eq (.loc 3) (.str .initial)) (.idx (.loc 0) (.int 4)) (.bytes []))) (.cons (.ret (.call 209 (.cons (.loc 3) (.cons (.idx (.loc 0) (.int 1)) (.cons (.idx (.loc 0) (.int 2)) (.cons (.idx (.loc 0) (.int 3)) (.cons (.loc 5) (.cons (.loc 4) (.cons (.loc 1) .nil))))))))) .nil))
noncomputable def x_head_of : List Str := ["packet", "number_size", "payload", "kind", "rest", "token"]
noncomputable def b_head_of : Ss := (.cons (.asg (.one (.loc 3)) (.idx (.loc 0) (.int 0))) (.cons (.asg (.one (.loc 4)) (.bin .Add (.bin .Add (.loc 1) (.len (.loc 2))) (.cst "TAG_SIZE" (.int 16)))) (.cons (.ite (.cmp .Eq (.loc 3) (.str .short)) (.cons (.ret (.call 422 (.cons (.idx (.loc 0) (.int 1)) (.cons (.idx (.loc 0) (.int 2)) (.cons (.idx (.loc 0) (.int 3)) (.cons (.loc 1) .nil)))))) .nil) .nil) tl_head_of_3)))
noncomputable def x_number_in : List Str := ["packet"]
noncomputable def b_number_in : Ss := (.cons (.ret (.idx (.loc 0) (.bin .Sub (.len (.loc 0)) (.int 2)))) .nil)
noncomputable def tl_put_packet_3 : Ss := (.cons (.ret (.call 345 (.cons (.loc 2) (.cons (.loc 3) (.cons (.call 429 (.cons (.loc 0) (.cons (.len (.loc 4)) (.cons (.loc 5) .nil)))) (.cons (.loc 4) (.cons (.loc 5) .nil))))))) .nil)
noncomputable def tl_put_packet_2 : Ss := (.cons (.asg (.one (.loc 5)) (.call 338 (.cons (.idx (.loc 0) (.bin .Sub (.len (.loc 0)) (.int 1))) (.cons (.len (.loc 4)) .nil)))) tl_put_packet_3)
noncomputable def tl_put_packet_1 : Ss := (.cons (.asg (.one (.loc 4)) (.call 415 (.cons (.loc 3) (.cons (.loc 1) .nil)))) tl_put_packet_2)
noncomputable def x_put_packet : List Str := ["packet", "largest_acked", "key", "number", "cut", "payload"]
noncomputable def b_put_packet : Ss := (.cons (.asg (.one (.loc 3)) (.call 436 (.cons (.loc 0) .nil))) tl_put_packet_1)
noncomputable def tl_bare_packet_1 : Ss := (.cons (.ret (.tup (.cons (.str .negotiation) (.cons (.attr (.loc 0) .dcid) (.cons (.attr (.loc 0) .scid) (.cons (.attr (.loc 0) .versions) .nil)))))) .nil)
noncomputable def x_bare_packet : List Str := ["raw"]
noncomputable def b_bare_packet : Ss := (.cons (.ite (.cmp .Eq (.attr (.loc 0) .kind) (.str .retry)) (.cons (.ret (.tup (.cons (.str .retry) (.cons (.attr (.loc 0) .version) (.cons (.attr (.loc 0) .dcid) (.cons (.attr (.loc 0) .scid) (.cons (.attr (.loc 0) .token) (.cons (.attr (.loc 0) .tag) .nil)))))))) .nil) .nil) tl_bare_packet_1)
noncomputable def tl_law_take_2 : Ss := (.cons (.ret (.bin .Mod (.bin .Add (.bin .Mult (.int 7) (.idx (.loc 0) (.int 1))) (.bin .FloorDiv (.idx (.loc 0) (.int 1)) (.int 3))) (.loc 1))) .nil)
noncomputable def x_law_take : List Str := ["rows", "many"]
noncomputable def b_law_take : Ss := (.cons (.asg (.one (.sub (.loc 0) (.int 1))) (.bin .Add (.idx (.loc 0) (.int 1)) (.int 1))) (.cons (.ite (.cmp .NotEq (.idx (.loc 0) (.int 0)) (.lst .nil)) (.cons (.ret (.bin .Mod (.pop0 (.idx (.loc 0) (.int 0))) (.loc 1))) .nil) .nil) tl_law_take_2))
noncomputable def x_law_other : List Str := ["some"]
noncomputable def b_law_other : Ss := (.cons (.ret (.bin .Add (.slcT (.loc 0) (.neg (.int 1))) (.mkBytes (.lst (.cons (.bin .Sub (.int 255) (.idx (.loc 0) (.neg (.int 1)))) .nil))))) .nil)
noncomputable def tl_law_first_1 : Ss := (.cons (.ret (.bin .Add (.bin .Add (.mkBytes (.lst (.cons (.int 195) (.cons (.int 0) (.cons (.int 0) (.cons (.int 0) (.cons (.idx (.loc 0) (.str .version)) .nil))))))) (.call 195 (.cons (.idx (.loc 0) (.str .dcid)) (.cons (.idx (.loc 0) (.str .scid)) .nil)))) (.bytes [119, 104, 97, 116, 32, 101, 108, 115, 101]))) .nil)
noncomputable def x_law_first : List Str := ["client"]
noncomputable def b_law_first : Ss := (.cons (.ite (.cmp .Eq (.idx (.loc 0) (.str .version)) (.int 1)) (.cons (.ret (.call 443 (.cons (.tup (.cons (.str .initial) (.cons (.int 1) (.cons (.idx (.loc 0) (.str .dcid)) (.cons (.idx (.loc 0) (.str .scid)) (.cons (.idx (.loc 0) (.str .token)) (.cons (.int 0) (.cons (.bytes [104, 101, 108, 108, 111]) .nil)))))))) (.cons .none (.cons (.bytes [107, 101, 121]) .nil))))) .nil) .nil) tl_law_first_1)
noncomputable def tl_law_versions_6 : Ss := (.cons (.asg (.one (.loc 11)) (.compIf [3] (.loc 0) (.idx (.loc 1) (.str .known)) (.cmp .In (.loc 0) (.loc 1)))) (.cons (.asg (.one (.sub (.loc 1) (.str .is_done))) (.cmp .Eq (.loc 11) (.lst .nil))) (.cons (.asg (.one (.sub (.loc 1) (.str .version))) (.ite (.cmp .Eq (.loc 11) (.lst .nil)) (.idx (.loc 1) (.str .version)) (.idx (.loc 11) (.int 0)))) (.cons (.ret (.cmp .Eq (.loc 10) (.ite (.cmp .NotEq (.loc 11) (.lst .nil)) (.tup (.cons (.str .use) (.cons (.idx (.loc 11) (.int 0)) .nil))) (.tup (.cons (.str .give_up) (.cons .none .nil)))))) .nil))))
noncomputable def tl_law_versions_5 : Ss := (.cons (.ite (.or (.cons (.idx (.loc 1) (.str .is_led)) (.cons (.cmp .Gt (.loc 2) (.int 0)) (.cons (.cmp .In (.idx (.loc 1) (.str .version)) (.loc 3)) .nil)))) (.cons (.ret (.cmp .Eq (.loc 10) (.tup (.cons (.str .ignore) (.cons .none .nil))))) .nil) .nil) tl_law_versions_6)
noncomputable def tl_law_versions_4 : Ss := (.cons (.asg (.one (.loc 10)) (.call 366 (.cons (.loc 9) (.cons (.idx (.loc 1) (.str .version)) (.cons (.idx (.loc 1) (.str .dcid)) (.cons (.idx (.loc 1) (.str .scid)) (.cons (.idx (.loc 1) (.str .known)) (.cons (.idx (.loc 1) (.str .is_led)) .nil)))))))) tl_law_versions_5)
noncomputable def tl_law_versions_3 : Ss := (.cons (.asg (.one (.loc 9)) (.tup (.cons (.loc 5) (.cons (.loc 6) (.cons (.ite (.cmp .Eq (.loc 2) (.int 1)) (.call 464 (.cons (.loc 7) .nil)) (.loc 7)) (.cons (.loc 8) .nil)))))) tl_law_versions_4)
noncomputable def tl_law_versions_2 : Ss := (.cons (.asg (.tup [(.loc 5), (.loc 6), (.loc 7), (.loc 8)]) (.call 450 (.cons (.call 242 (.cons (.loc 4) (.cons (.int 0) .nil))) .nil))) tl_law_versions_3)
noncomputable def tl_law_versions_1 : Ss := (.cons (.asg (.one (.loc 4)) (.call 359 (.cons (.call 242 (.cons (.call 471 (.cons (.loc 1) .nil)) (.cons (.int 0) .nil))) (.cons (.call 457 (.cons (.loc 0) (.cons (.int 128) .nil))) (.cons (.loc 3) .nil))))) tl_law_versions_2)
noncomputable def x_law_versions : List Str := ["rows", "client", "form", "offered", "data", "kind", "dcid", "scid", "versions", "packet", "told", "wanted"]
noncomputable def b_law_versions : Ss := (.cons (.asg (.one (.loc 3)) (.bin .Add (.lst (.cons (.bin .Add (.int 3) (.call 457 (.cons (.loc 0) (.cons (.int 3) .nil)))) (.cons (.int 1) .nil))) (.ite (.cmp .Eq (.loc 2) (.int 2)) (.lst (.cons (.idx (.loc 1) (.str .version)) .nil)) (.lst .nil)))) tl_law_versions_1)
noncomputable def tl_law_retry_9 : Ss := (.cons (.ret (.bool true)) .nil)
noncomputable def tl_law_retry_8 : Ss := (.cons (.ite (.loc 9) (.cons (.asg (.tup [(.sub (.loc 1) (.str .dcid)), (.sub (.loc 1) (.str .token)), (.sub (.loc 1) (.str .born)), (.sub (.loc 1) (.str .is_led))]) (.tup (.cons (.loc 5) (.cons (.loc 3) (.cons (.idx (.loc 1) (.str .now)) (.cons (.bool true) .nil)))))) .nil) .nil) tl_law_retry_9)
noncomputable def tl_law_retry_7 : Ss := (.cons (.ite (.cmp .NotEq (.loc 9) (.and (.cons (.cmp .Eq (.loc 2) (.int 0)) (.cons (.not (.idx (.loc 1) (.str .is_led))) .nil)))) (.cons (.ret (.bool false)) .nil) .nil) tl_law_retry_8)
noncomputable def tl_law_retry_6 : Ss := (.cons (.asg (.one (.loc 9)) (.call 387 (.cons (.loc 6) (.cons (.loc 8) (.cons (.idx (.loc 1) (.str .dcid)) (.cons (.idx (.loc 1) (.str .scid)) (.cons (.idx (.loc 1) (.str .is_led)) .nil))))))) tl_law_retry_7)
noncomputable def tl_law_retry_5 : Ss := (.cons (.asg (.one (.loc 8)) (.call 450 (.cons (.call 242 (.cons (.loc 6) (.cons (.int 0) .nil))) .nil))) tl_law_retry_6)
noncomputable def tl_law_retry_4 : Ss := (.cons (.ite (.cmp .Eq (.loc 2) (.int 3)) (.cons (.asg (.one (.loc 7)) (.bin .Sub (.bin .Sub (.len (.loc 6)) (.int 1)) (.call 457 (.cons (.loc 0) (.cons (.bin .Add (.len (.loc 3)) (.int 16)) .nil))))) (.cons (.asg (.one (.loc 6)) (.bin .Add (.bin .Add (.slcT (.loc 6) (.loc 7)) (.mkBytes (.lst (.cons (.bin .BitXor (.idx (.loc 6) (.loc 7)) (.bin .Add (.int 1) (.call 457 (.cons (.loc 0) (.cons (.int 255) .nil))))) .nil)))) (.slcF (.loc 6) (.bin .Add (.loc 7) (.int 1))))) .nil)) .nil) tl_law_retry_5)
noncomputable def tl_law_retry_3 : Ss := (.cons (.asg (.one (.loc 6)) (.call 380 (.cons (.call 457 (.cons (.loc 0) (.cons (.int 16) .nil))) (.cons (.int 1) (.cons (.idx (.loc 1) (.str .scid)) (.cons (.loc 5) (.cons (.loc 3) (.cons (.loc 4) .nil)))))))) tl_law_retry_4)
noncomputable def tl_law_retry_2 : Ss := (.cons (.asg (.one (.loc 5)) (.bin .Add (.bytes [98, 121, 32, 115, 101, 114, 118, 101, 114]) (.mkBytes (.lst (.cons (.call 457 (.cons (.loc 0) (.cons (.int 9) .nil))) .nil))))) tl_law_retry_3)
noncomputable def tl_law_retry_1 : Ss := (.cons (.asg (.one (.loc 4)) (.ite (.cmp .Eq (.loc 2) (.int 4)) (.call 464 (.cons (.idx (.loc 1) (.str .dcid)) .nil)) (.idx (.loc 1) (.str .dcid)))) tl_law_retry_2)
noncomputable def x_law_retry : List Str := ["rows", "client", "form", "token", "first", "fresh", "data", "spot", "packet", "told"]
noncomputable def b_law_retry : Ss := (.cons (.asg (.one (.loc 3)) (.ite (.cmp .Eq (.loc 2) (.int 5)) (.bytes []) (.call 394 (.cons (.bytes [115, 101, 99, 114, 101, 116]) (.cons (.bytes [112, 108, 97, 99, 101]) (.cons (.idx (.loc 1) (.str .dcid)) (.cons (.idx (.loc 1) (.str .now)) .nil))))))) tl_law_retry_1)
noncomputable def tl_law_server_right_8 : Ss := (.cons (.ret (.cmp .Is (.call 401 (.cons (.bytes [115, 101, 99, 114, 101, 116]) (.cons (.bytes [112, 108, 98, 99, 101]) (.cons (.attr (.loc 2) .token) (.cons (.idx (.loc 0) (.str .now)) (.cons (.idx (.loc 0) (.str .life)) .nil)))))) .none)) .nil)
noncomputable def tl_law_server_right_7 : Ss := (.cons (.ite (.cmp .NotEq (.call 401 (.cons (.bytes [115, 101, 99, 114, 101, 116]) (.cons (.bytes [112, 108, 97, 99, 101]) (.cons (.attr (.loc 2) .token) (.cons (.idx (.loc 0) (.str .now)) (.cons (.idx (.loc 0) (.str .life)) .nil)))))) (.loc 4)) (.cons (.ret (.bool false)) .nil) .nil) tl_law_server_right_8)
noncomputable def tl_law_server_right_6 : Ss := (.cons (.asg (.one (.loc 4)) (.ite (.loc 3) (.idx (.loc 0) (.str .first)) .none)) tl_law_server_right_7)
noncomputable def tl_law_server_right_5 : Ss := (.cons (.asg (.one (.loc 3)) (.and (.cons (.cmp .NotEq (.idx (.loc 0) (.str .token)) (.bytes [])) (.cons (.cmp .LtE (.idx (.loc 0) (.str .now)) (.bin .Add (.idx (.loc 0) (.str .born)) (.idx (.loc 0) (.str .life)))) .nil)))) tl_law_server_right_6)
noncomputable def tl_law_server_right_4 : Ss := (.cons (.ite (.cmp .NotEq (.idx (.loc 0) (.str .version)) (.int 1)) (.cons (.ret (.bool true)) .nil) .nil) tl_law_server_right_5)
noncomputable def tl_law_server_right_3 : Ss := (.cons (.ite (.or (.cons (.call 352 (.cons (.loc 2) (.cons (.int 1199) (.cons (.lst (.cons (.int 1) .nil)) .nil)))) (.cons (.cmp .NotEq (.call 352 (.cons (.loc 2) (.cons (.int 1200) (.cons (.lst (.cons (.int 1) .nil)) .nil)))) (.cmp .NotEq (.idx (.loc 0) (.str .version)) (.int 1))) .nil))) (.cons (.ret (.bool false)) .nil) .nil) tl_law_server_right_4)
noncomputable def tl_law_server_right_2 : Ss := (.cons (.ite (.cmp .NotEq (.tup (.cons (.attr (.loc 2) .dcid) (.cons (.attr (.loc 2) .scid) (.cons (.attr (.loc 2) .version) .nil)))) (.tup (.cons (.idx (.loc 0) (.str .dcid)) (.cons (.idx (.loc 0) (.str .scid)) (.cons (.idx (.loc 0) (.str .version)) .nil))))) (.cons (.ret (.bool false)) .nil) .nil) tl_law_server_right_3)
noncomputable def tl_law_server_right_1 : Ss := (.cons (.asg (.one (.loc 2)) (.idx (.call 277 (.cons (.loc 1) (.cons (.int 4) .nil))) (.int 0))) tl_law_server_right_2)
noncomputable def x_law_server_right : List Str := ["client", "data", "raw", "is_alive", "due"]
noncomputable def b_law_server_right : Ss := (.cons (.asg (.one (.loc 1)) (.call 471 (.cons (.loc 0) .nil))) tl_law_server_right_1)
noncomputable def tl_lb_law_0_4 : Ss := (.cons (.ite (.idx (.loc 5) (.str .is_done)) (.cons .brk .nil) .nil) .nil)
noncomputable def tl_lb_law_0_3 : Ss := (.cons (.ite (.or (.cons (.not (.loc 8)) (.cons (.not (.call 490 (.cons (.loc 5) .nil))) .nil))) (.cons (.ret (.bool false)) .nil) .nil) tl_lb_law_0_4)
noncomputable def tl_lb_law_0_2 : Ss := (.cons (.asg (.one (.sub (.loc 5) (.str .now))) (.bin .Add (.idx (.loc 5) (.str .now)) (.call 457 (.cons (.loc 1) (.cons (.int 2) .nil))))) tl_lb_law_0_3)
noncomputable def tl_lb_law_0_1 : Ss := (.cons (.ite (.or (.cons (.cmp .In (.loc 7) (.tup (.cons (.int 1) (.cons (.int 2) .nil)))) (.cons (.and (.cons (.cmp .Eq (.loc 7) (.int 0)) (.cons (.cmp .NotEq (.idx (.loc 5) (.str .version)) (.int 1)) .nil))) .nil))) (.cons (.asg (.one (.loc 8)) (.call 476 (.cons (.loc 1) (.cons (.loc 5) (.cons (.loc 7) .nil))))) .nil) (.cons (.ite (.cmp .Eq (.loc 7) (.int 6)) (.cons (.asg (.tup [(.sub (.loc 5) (.str .is_led)), (.loc 8)]) (.tup (.cons (.bool true) (.cons (.bool true) .nil)))) .nil) (.cons (.asg (.one (.loc 8)) (.call 483 (.cons (.loc 1) (.cons (.loc 5) (.cons (.loc 7) .nil))))) .nil)) .nil)) tl_lb_law_0_2)
noncomputable def lb_law_0 : Ss := (.cons (.asg (.one (.loc 7)) (.call 457 (.cons (.loc 1) (.cons (.int 7) .nil)))) tl_lb_law_0_1)
noncomputable def tl_law_6 : Ss := (.cons (.ret (.call 483 (.cons (.loc 1) (.cons (.loc 5) (.cons (.ite (.cmp .Eq (.idx (.loc 5) (.str .version)) (.int 1)) (.int 0) (.int 5)) .nil))))) .nil)
noncomputable def tl_law_5 : Ss := (.cons (.for 6 (.range1 (.bin .Add (.int 1) (.call 457 (.cons (.loc 1) (.cons (.int 6) .nil))))) lb_law_0) tl_law_6)
noncomputable def tl_law_3 : Ss := (.cons (.asg (.one (.loc 5)) (.dct [.version, .known, .dcid, .first, .scid, .token] (.cons (.loc 3) (.cons (.loc 4) (.cons (.loc 2) (.cons (.loc 2) (.cons (.bytes [111, 119, 110]) (.cons (.bytes []) .nil)))))))) (.cons (.expr (.update (.loc 5) (.dct [.now, .born, .life, .is_led, .is_done] (.cons (.int 100) (.cons (.int 0) (.cons (.bin .Add (.int 1) (.call 457 (.cons (.loc 1) (.cons (.int 3) .nil)))) (.cons (.bool false) (.cons (.bool false) .nil)))))))) tl_law_5))
noncomputable def tl_law_2 : Ss := (.cons (.asg (.rev [(.loc 3), (.loc 4)]) (.tup (.cons (.idx (.lst (.cons (.int 1) (.cons (.int 2) .nil))) (.call 457 (.cons (.loc 1) (.cons (.int 2) .nil)))) (.cons (.idx (.lst (.cons (.lst (.cons (.int 1) .nil)) (.cons (.lst (.cons (.int 4) (.cons (.int 1) .nil))) (.cons (.lst (.cons (.int 3) (.cons (.int 4) .nil))) (.cons (.lst .nil) .nil))))) (.call 457 (.cons (.loc 1) (.cons (.int 4) .nil)))) .nil)))) tl_law_3)
noncomputable def x_law : List Str := ["script", "rows", "first", "version", "known", "client", "turn", "form", "is_right"]
noncomputable def b_law : Ss := (.cons (.asg (.one (.loc 1)) (.lst (.cons (.comp [] (.absI (.toInt (.loc 0))) (.slcT (.loc 0) (.int 60))) (.cons (.int 0) .nil)))) (.cons (.asg (.one (.loc 2)) (.bin .Add (.bytes [105, 100]) (.mkBytes (.lst (.cons (.call 457 (.cons (.loc 1) (.cons (.int 256) .nil))) .nil))))) tl_law_2))
theorem f_put_whole (P : Params) : fnFit (K P) 82 2 x_put_whole b_put_whole = true := by kernel_rfl
theorem f_get_whole (P : Params) : fnFit (K P) 89 3 x_get_whole b_get_whole = true := by kernel_rfl
theorem f_varint_size (P : Params) : fnFit (K P) 96 1 x_varint_size b_varint_size = true := by kernel_rfl
theorem f_put_varint (P : Params) : fnFit (K P) 103 2 x_put_varint b_put_varint = true := by kernel_rfl
theorem f_get_varint (P : Params) : fnFit (K P) 110 2 x_get_varint b_get_varint = true := by kernel_rfl
theorem f_Reader_init (P : Params) : fnFit (K P) 124 2 x_Reader_init b_Reader_init = true := by kernel_rfl
theorem f_Reader_left (P : Params) : fnFit (K P) 131 1 x_Reader_left b_Reader_left = true := by kernel_rfl
theorem f_Reader_take (P : Params) : fnFit (K P) 138 2 x_Reader_take b_Reader_take = true := by kernel_rfl
theorem f_Reader_whole (P : Params) : fnFit (K P) 152 2 x_Reader_whole b_Reader_whole = true := by kernel_rfl
theorem f_Reader_varint (P : Params) : fnFit (K P) 159 1 x_Reader_varint b_Reader_varint = true := by kernel_rfl
theorem f_RawPacket_init (P : Params) : fnFit (K P) 181 5 x_RawPacket_init b_RawPacket_init = true := by kernel_rfl
theorem f_put_ids (P : Params) : fnFit (K P) 195 2 x_put_ids b_put_ids = true := by kernel_rfl
theorem f_long_first (P : Params) : fnFit (K P) 202 2 x_long_first b_long_first = true := by kernel_rfl
theorem f_long_head (P : Params) : fnFit (K P) 209 7 x_long_head b_long_head = true := by kernel_rfl
theorem f_put_negotiation (P : Params) : fnFit (K P) 214 4 x_put_negotiation b_put_negotiation = true := by kernel_rfl
theorem f_put_retry (P : Params) : fnFit (K P) 221 6 x_put_retry b_put_retry = true := by kernel_rfl
theorem f_read_invariants (P : Params) : fnFit (K P) 228 2 x_read_invariants b_read_invariants = true := by kernel_rfl
theorem f_read_versions (P : Params) : fnFit (K P) 235 2 x_read_versions b_read_versions = true := by kernel_rfl
theorem f_read_long (P : Params) : fnFit (K P) 242 2 x_read_long b_read_long = true := by kernel_rfl
theorem f_read_retry (P : Params) : fnFit (K P) 249 3 x_read_retry b_read_retry = true := by kernel_rfl
theorem f_read_numbered (P : Params) : fnFit (K P) 256 3 x_read_numbered b_read_numbered = true := by kernel_rfl
theorem f_read_raw (P : Params) : fnFit (K P) 270 3 x_read_raw b_read_raw = true := by kernel_rfl
theorem f_split_datagram (P : Params) : fnFit (K P) 277 2 x_split_datagram b_split_datagram = true := by kernel_rfl
theorem f_mixed_octets (P : Params) : fnFit (K P) 284 2 x_mixed_octets b_mixed_octets = true := by kernel_rfl
theorem f_turned_octets (P : Params) : fnFit (K P) 291 3 x_turned_octets b_turned_octets = true := by kernel_rfl
theorem f_tag_of (P : Params) : fnFit (K P) 298 4 x_tag_of b_tag_of = true := by kernel_rfl
theorem f_seal_payload (P : Params) : fnFit (K P) 305 4 x_seal_payload b_seal_payload = true := by kernel_rfl
theorem f_head_mask (P : Params) : fnFit (K P) 312 2 x_head_mask b_head_mask = true := by kernel_rfl
theorem f_turned_first (P : Params) : fnFit (K P) 319 2 x_turned_first b_turned_first = true := by kernel_rfl
theorem f_turned_number (P : Params) : fnFit (K P) 324 2 x_turned_number b_turned_number = true := by kernel_rfl
theorem f_sample_at (P : Params) : fnFit (K P) 331 3 x_sample_at b_sample_at = true := by kernel_rfl
theorem f_padded_payload (P : Params) : fnFit (K P) 338 2 x_padded_payload b_padded_payload = true := by kernel_rfl
theorem f_protected_packet (P : Params) : fnFit (K P) 345 5 x_protected_packet b_protected_packet = true := by kernel_rfl
theorem f_wants_negotiation (P : Params) : fnFit (K P) 352 3 x_wants_negotiation b_wants_negotiation = true := by kernel_rfl
theorem f_negotiation_answer (P : Params) : fnFit (K P) 359 3 x_negotiation_answer b_negotiation_answer = true := by kernel_rfl
theorem f_chosen_version (P : Params) : fnFit (K P) 366 6 x_chosen_version b_chosen_version = true := by kernel_rfl
theorem f_retry_tag (P : Params) : fnFit (K P) 373 2 x_retry_tag b_retry_tag = true := by kernel_rfl
theorem f_put_retry_packet (P : Params) : fnFit (K P) 380 6 x_put_retry_packet b_put_retry_packet = true := by kernel_rfl
theorem f_takes_retry (P : Params) : fnFit (K P) 387 5 x_takes_retry b_takes_retry = true := by kernel_rfl
theorem f_token_for (P : Params) : fnFit (K P) 394 4 x_token_for b_token_for = true := by kernel_rfl
theorem f_check_token (P : Params) : fnFit (K P) 401 5 x_check_token b_check_token = true := by kernel_rfl
theorem f_number_size (P : Params) : fnFit (K P) 408 2 x_number_size b_number_size = true := by kernel_rfl
theorem f_cut_number (P : Params) : fnFit (K P) 415 2 x_cut_number b_cut_number = true := by kernel_rfl
theorem f_head_of (P : Params) : fnFit (K P) 429 3 x_head_of b_head_of = true := by kernel_rfl
theorem f_number_in (P : Params) : fnFit (K P) 436 1 x_number_in b_number_in = true := by kernel_rfl
theorem f_put_packet (P : Params) : fnFit (K P) 443 3 x_put_packet b_put_packet = true := by kernel_rfl
theorem f_bare_packet (P : Params) : fnFit (K P) 450 1 x_bare_packet b_bare_packet = true := by kernel_rfl
theorem f_law_take (P : Params) : fnFit (K P) 457 2 x_law_take b_law_take = true := by kernel_rfl
theorem f_law_other (P : Params) : fnFit (K P) 464 1 x_law_other b_law_other = true := by kernel_rfl
theorem f_law_first (P : Params) : fnFit (K P) 471 1 x_law_first b_law_first = true := by kernel_rfl
theorem f_law_versions (P : Params) : fnFit (K P) 476 3 x_law_versions b_law_versions = true := by kernel_rfl
theorem f_law_retry (P : Params) : fnFit (K P) 483 3 x_law_retry b_law_retry = true := by kernel_rfl
theorem f_law_server_right (P : Params) : fnFit (K P) 490 1 x_law_server_right b_law_server_right = true := by kernel_rfl
theorem f_law (P : Params) : fnFit (K P) 495 1 x_law b_law = true := by kernel_rfl
end Mine
end
section
set_option maxRecDepth 100000
namespace Mine
open PySem PySem.W PyProof.Rows
noncomputable abbrev law_row : RowW := PySem.Challenge.rw_pb0530_01.row.toRowW
/-- the whole thread, from the calculus -/
theorem ends_X {w : World} {t : Sem Fin} {s : Shared} {R : Result → Shared → Prop} (hreg : s.asleep)
    (h : wX (model pw w) callerA t (fun fin s' => ∃ f, fin = .done f ∧ (R (.ok f) s' ∧ leftWithCleanup s'.gens = false)) s) :
    ∃ n r s' s'', runN (denote table) pw w n s ⟨t, .builtin "claim.caller" {}, default, []⟩ = .halted (outcomeOf r) s' ∧
      schedN (denote table) pw w n (.single s ⟨t, .builtin "claim.caller" {}, default, []⟩) = .halted (outcomeOf r) s' ∧ s'.forget = s''.forget ∧ R r s'' := by
  have h0 := h _ default caller_in (by decide +kernel) (fun x hx => nomatch hx)
  obtain ⟨n, r, s₁, s₂, hs, hn, hfo, hR⟩ := wp_halts_full (M := model pw w) (R := R) (c := .builtin "claim.caller" {}) (t := t) (p := default) hreg
    (Sem.wp_mono _ _ t (fun fin p' s' ⟨f, e, q⟩ => by subst e; exact q) (fun _ _ _ e => e.elim) default s h0)
  exact ⟨n, r, s₂, s₁, hn, hs, hfo, hR⟩
theorem items_ints {R : WRecords} : ∀ {xs : List WData}, WShape.hasItems R xs .int = true → ∃ is : List Int, xs = is.map .int
  | [], _ => ⟨[], rfl⟩
  | x :: xs, h => by
    obtain ⟨h1, h2⟩ := Bool.and_eq_true_iff.mp (by simpa [WShape.hasItems] using h : (WShape.has R x .int && WShape.hasItems R xs .int) = true)
    obtain ⟨i, rfl⟩ := hasW_int h1
    obtain ⟨is, rfl⟩ := items_ints h2
    exact ⟨i :: is, rfl⟩
theorem law_args {args : List WData} (h : law_row.claim.pre args = true) : ∃ is : List Int, args = [.list (is.map .int)] ∧ is.length ≤ 63 := by
  obtain ⟨h1, h2⟩ := pre_splitW h
  obtain ⟨d, r, rfl, h3, h4⟩ := hasAllW_cons h1
  obtain rfl := hasAllW_nil h4
  obtain ⟨xs, rfl, h5⟩ := hasW_list h3
  obtain ⟨is, rfl⟩ := items_ints h5
  refine ⟨is, rfl, ?_⟩
  have e : WTm.value law_row.records law_row.pre { args := [.list (is.map .int)] } = some (.bool (!decide ((63 : Int) < (is.length : Int)))) := by
    show WTm.value _ (OpenLaw.pre PySem.Challenge.rw_pb0530_01) _ = _
    unfold OpenLaw.pre
    have e' : less? (.int ((63 : Nat) : Int)) (.int (is.length : Int)) = some (decide ((63 : Int) < (is.length : Int))) := by rfl
    simp only [WTm.value, PySem.Challenge.rw_pb0530_01, List.getElem?_cons_zero, List.length_map, e', Option.map_some]
    cases decide ((63 : Int) < (is.length : Int)) <;> rfl
  unfold WTm.holds at h2
  rw [e] at h2
  cases hd : decide ((63 : Int) < (is.length : Int)) with
  | true => rw [hd] at h2; cases h2
  | false => have := of_decide_eq_false hd; omega
theorem ints_well {P : Params} {h : Heap} : ∀ {is : List Int} {vs : List Value}, WellAll P h vs (is.map .int) → RIs is vs
  | [], _, r => by cases r; trivial
  | i :: is, _, r => by
    cases r with
    | cons h1 h2 => cases h1; exact ⟨⟨_, rfl⟩, ints_well h2⟩
theorem law_glob (P : Params) : nsIn (K P) mainGlobals PySem.Challenge.rw_pb0530_01.row.name = some (some (.ref 495)) := by kernel_rfl
theorem sizes_at (P : Params) : (K P).lookup 75 = some { cls := .type "tuple", data := .seq #[.int 1 284, .int 2 285, .int 4 286, .int 8 287] } := by kernel_rfl
theorem kinds_at (P : Params) : (K P).lookup 167 = some { cls := .type "list", data := .seq #[.str (N.s .initial) 417, .str (N.s .zero) 418, .str (N.s .handshake) 419, .str (N.s .retry) 420] } := by kernel_rfl
theorem law_post (args : List WData) : law_row.claim.post args (.bool true) args = true := by kernel_rfl
noncomputable abbrev RX (s s₁ : Shared) (a : Addr) (is : List Int) (r : Result) (s' : Shared) : Prop := law_row.claim.Ends s [.list (is.map .int)] [.ref a] s₁ r s' ∧ s'.os = s.os ∧ (PySem.Challenge.rw_pb0530_01.row.writes = true → namesKept pw PySem.Challenge.rw_pb0530_01.row.keeps s.heap s'.heap ∧ ∀ x ∈ law_row.records, ∀ a, classAt s.heap x.1 = some a → recordClass s'.heap a x.1 (x.2.map (·.1)) = true)
theorem pin_name {b : Bool} {m n : Str} (hn : n ∈ if b = true then [m] else []) : n = m := by
  split at hn
  · exact List.mem_singleton.mp hn
  · cases hn
theorem holds_X (call : ∀ (w : World) (s : Shared) (a : Addr) (is : List Int) (vs : List Value), Base w s.heap → Tabs s.heap → s.heap.get? a = some { cls := .type "list", data := .seq vs.toArray } → RIs is vs → is.length ≤ 63 →
      wX (model pw w) callerA (PySem.call (.ref 495) [.ref a]) (fun v s' => v = .bool true ∧ (∀ b o, s.heap.get? b = some o → s'.heap.get? b = some o) ∧ ∃ h' tk, s' = { s with heap := h', toks := tk }) s) :
    PySem.Challenge.rw_pb0530_01.Holds := by
  refine holds_law law_said fun said => ⟨said, law_promised, ?_⟩
  have hX : ∀ s, Xt s = true → XL q [] (s.heap.nsMap mainGlobals) s.heap := fun s e => xl_of s (Bool.and_eq_true_iff.mp e).1
  have ok := law_ok
  refine and2 ok fun ok k5 => ?_
  refine and2 ok fun hch o1 => ?_
  refine and2 k5 fun k5 k6 => ?_
  obtain ⟨hsame, hu, ha, hap, hm⟩ := frees_parts k5
  refine ⟨⟨law_bare, o1, rfl⟩, law_promised.witness, fun w => ⟨(left.behind hX hch w).1, fun s' hs' => ?_⟩⟩
  refine hide fun goal done => ?_
  obtain ⟨s₀, hf, hg0, s, hT, hz, hgens, hg, G0, y⟩ := (left.behind hX hch w).2 s' hs'
  have RF : RecFacts law_row.records s.heap := recFacts_nil rfl
  have hgens : s.gens = #[] := Array.eq_empty_of_size_eq_zero (beq_iff_eq.mp hgens)
  have G : Ground q loose law_row.records (XL q []) w s _ _ s.heap := RF.ground G0
  refine done ⟨s₀, hf, hg0, s, hT, fun n hn => ?_, RF.1, RF.2.1, ?_⟩
  · obtain rfl := pin_name hn
    exact pinned_of_view hg G0 law_def law_thedef law_kw
  clear done goal
  intro args hpre hlay ord hord
  refine hide fun goal done => ?_
  obtain ⟨⟨vs, s₁⟩, hlaid⟩ := Option.isSome_iff_exists.mp (layAllW_isSome (P := w.params) (ord := ord) G.has args law_row.args s (pre_splitW hpre).1)
  have keeps := layAllW_keeps _ _ _ hlaid
  have hal := layAllW_rest _ _ _ hlaid
  obtain ⟨as, hrd, hin, hold⟩ := reads_layAllW hord _ _ _ hlaid hlay s₁.heap (fun _ _ e => e)
  have L : Laid law_row.records w s s₁ args vs as := ⟨⟨ord, hord, hlaid⟩, hrd, hin, hold, keeps, hal.1.trans hgens, hal.2.2.1⟩
  have G₁ := G.keeps XL.keeps keeps
  have Y : hk.says w s₁.heap := hk.keeps _ _ _ (hk.of w s y) keeps
  have T := topRead_of G₁.T
  obtain ⟨is, rfl, his⟩ := law_args hpre
  have hwell := well_layAllW hord _ _ _ hlaid s₁.heap (fun _ _ e => e)
  obtain ⟨a, ivs, rfl, hget, hri⟩ : ∃ a ivs, vs = [.ref a] ∧ s₁.heap.get? a = some { cls := .type "list", data := .seq (List.toArray ivs) } ∧ RIs is ivs := by
    cases hwell with
    | cons h1 h2 =>
      cases h2
      cases h1 with
      | list hg hw => exact ⟨_, _, rfl, hg, ints_well hw⟩
  have base : Base w s₁.heap := ⟨Y.1, Y.2, T.nolimit, ⟨_, T.g⟩, ⟨_, T.b, T.builtins⟩⟩
  have tabs : Tabs s₁.heap := ⟨Y.1 _ _ (sizes_at w.params), Y.1 _ _ (kinds_at w.params)⟩
  have hcall := call w s₁ a is ivs base tabs hget hri his
  have hname := mg_of Y.1 T.g (law_glob w.params)
  have hi := ident_freeW hu ha hap
  have hwi : law_row.claim.within = [] := List.isEmpty_iff.mp k6
  have hrun0 : wX (model pw w) callerA (do match ← nsGet mainNs PySem.Challenge.rw_pb0530_01.row.name with
      | some f => do ret (← PySem.call f [.ref a])
      | none => unsupported "claim.caller:no-such-global") (fun fin s' => ∃ f, fin = .done f ∧ (RX s s₁ a is (.ok f) s' ∧ leftWithCleanup s'.gens = false)) s₁ := by
    refine .bind (.lift (wpAny_nsGet T.g ?_))
    rw [hname]
    refine .bind (hcall.mono fun v s' ⟨hv, hk', h', tk, es⟩ => .pure ?_)
    subst hv
    have g : GoodWG law_row.claim (classAt s.heap) (ExcName.means s.heap) [.list (is.map .int)] s₁ (.ok (.ret (.bool true))) s' :=
      ⟨.inl ⟨_, .bool true, [], rfl, fun _ => rfl, .bool true, law_post _, fun _ => ⟨List.nodup_nil, fun _ hx => nomatch hx⟩⟩, .of_keep hk', by rw [es], .of_eq (by rw [es]; exact L.gens)⟩
    have z := g.laid (c := law_row.claim) hsame hwi hi L
    exact ⟨_, rfl, ⟨z.1, z.2.1, fun q => by cases q⟩, leftWithCleanup_false_of_bare z.2.2⟩
  obtain ⟨k, r, s2, s3, hrun, hsched, hfo, hcase, hos, hkp⟩ := ends_X (R := RX s s₁ a is) (Shared.asleep_of_life hal.2.2.2 hz) hrun0
  obtain ⟨eh, _, _, eo, _⟩ := Shared.forget_eq hfo
  have hcase := hcase.congr eh
  rw [← eh] at hkp
  rw [← eo] at hos
  have hlife : s2.heap.life = s.heap.life := (runN_life _ _ _ hrun).trans hal.2.2.2
  refine done ⟨[.ref a], s₁, hlaid, k, _, s2, hsched, ?_, (fun _ i x hx => by rw [hgens] at hx; simp at hx), hkp, by rw [hlife], Shared.rest_eq hos⟩
  exact Or.imp (fun z => z.imp fun v z => ⟨congrArg outcomeOf z.1, z.2.1, z.2.2.1, z.2.2.2.1, fun b o y _ => z.2.2.2.2.1 b o y, z.2.2.2.2.2⟩)
    (fun z => z.imp fun e z => z.imp fun ob z => z.imp fun cls z => ⟨congrArg outcomeOf z.1, z.2.1, z.2.2.1, z.2.2.2.1, z.2.2.2.2.1, fun b o y _ => z.2.2.2.2.2 b o y⟩) hcase
theorem holds_G {n : Nat} (hn : n ≤ 100) (law : ∀ (w : World) (B : Heap) (o : Obj) (is : List Int), Base w B → Tabs B → is.length ≤ 63 → G w B n 495 [.obj 0] [.ro o is] fun v _ => v = .bool true) : PySem.Challenge.rw_pb0530_01.Holds := by
  refine holds_X fun w s a is vs bs tb hget hri his => ?_
  have R : Roo2 callerA n := ⟨rfl, by show 1 + claimMargin + 4 * n + 2 < recursionLimit; unfold claimMargin recursionLimit; omega, by show 4 + 8 * n + 4 < cLine; unfold cLine; omega⟩
  have hr : HR w s.heap [(a, a)] [.ro { cls := .type "list", data := .seq vs.toArray } is] s := by
    refine ⟨rfl, fun b o e => e, fun k o p e1 e2 => ?_, fun i j p q e1 e2 ne => ?_, fun k p o e1 e2 hn => ?_, ?_⟩
    · match k, e1, e2 with
      | 0, e1, e2 => cases e1; cases e2; exact ⟨rfl, hget, _, _, rfl, by simpa using hri⟩
      | k + 1, e1, e2 => simp at e1
    · match i, j, e1, e2 with
      | 0, 0, _, _ => exact absurd rfl ne
      | i + 1, _, e1, _ => simp at e1
      | 0, j + 1, _, e2 => simp at e2
    · match k, e2 with
      | 0, e2 => cases e2; exact absurd rfl (hn _ _)
      | k + 1, e2 => simp at e2
    · obtain ⟨mg, ⟨o, es, ep, ho, _⟩⟩ := bs.glob
      exact ⟨o, ho⟩
  refine wX.mono (law w s.heap _ is bs tb his callerA [(a, a)] s [.ref a] R hr ⟨⟨_, rfl, rfl⟩, trivial⟩) fun v s' zz0 => ?_
  obtain ⟨u, h', ρ', e, rv, hr', st⟩ := zz0
  subst e
  exact ⟨rv, hr'.base, st.rest⟩
end Mine
end
section
set_option maxRecDepth 100000
set_option maxHeartbeats 2000000
set_option backward.match.sparseCases false
set_option linter.all false
namespace Mine
open PySem PySem.W
set_option backward.match.sparseCases false in
theorem iteA {c : Bool} {p q : Prop} (h1 : c = true → p) (h2 : c = false → q) : (match (generalizing := false) c with | true => p | false => q) := by
  cases c with
  | true => exact h1 rfl
  | false => exact h2 rfl
theorem iteF {c : Bool} {p q : Prop} (h1 : c = false → q) (h2 : c = true → p) : (match (generalizing := false) c with | true => p | false => q) := iteA h2 h1
theorem mm {k j m : Nat} (h : k ≤ m) (d : (j + 1).ble k = true := by rfl) : j ≤ m - 1 := Nat.le_sub_one_of_lt (Nat.lt_of_lt_of_le (Nat.le_of_ble_eq_true d) h)
theorem m1 {k j m : Nat} (h : k ≤ m) (d : j.ble k = true := by rfl) : j ≤ m := Nat.le_trans (Nat.le_of_ble_eq_true d) h
set_option backward.match.sparseCases false
section
variable {Γ : Nat → List V → H → K1 → Prop} {l : L} {h : H} {Q : K1}
theorem vA : wpE Γ .none l h Q = (Q .none h) := rfl
theorem vB {b : Bool}: wpE Γ (.bool b) l h Q = (Q (.bool b) h) := rfl
theorem vD {n : N}: wpE Γ (.str n) l h Q = (Q (.str n) h) := rfl
theorem vE {b : List UInt8}: wpE Γ (.bytes b) l h Q = (Q (.bytes b) h) := rfl
theorem vG {u : Str} {v : V}: wpE Γ (.cst u v) l h Q = (Q v h) := rfl
theorem vH {op : Operator} {a : E} {b : E}: wpE Γ (.bin op a b) l h Q = (wpE Γ a l h fun x h1 => wpE Γ b l h1 fun y h2 => wpBin op x y h2 Q) := rfl
theorem vJ {a : E}: wpE Γ (.not a) l h Q = (wpE Γ a l h fun x h1 => match x with | .bool b => Q (.bool (!b)) h1 | _ => False) := rfl
theorem vK {es : Es}: wpE Γ (.and es) l h Q = (wpAnd Γ es l h Q) := rfl
theorem vL {es : Es}: wpE Γ (.or es) l h Q = (wpOr Γ es l h Q) := rfl
theorem vM {op : CmpOp} {a : E} {b : E}: wpE Γ (.cmp op a b) l h Q = (wpE Γ a l h fun x h1 => wpE Γ b l h1 fun y h2 => match cmpV op h2 x y with | some r => Q (.bool r) h2 | .none => False) := rfl
theorem vN {o1 : CmpOp} {o2 : CmpOp} {a : E} {b : E} {c : E}: wpE Γ (.cmp2 o1 o2 a b c) l h Q = (wpE Γ a l h fun x h1 => wpE Γ b l h1 fun y h2 => match cmpV o1 h2 x y with
    | some r => (match r with | true => wpE Γ c l h2 fun z h3 => (match cmpV o2 h3 y z with | some r' => Q (.bool r') h3 | .none => False) | false => Q (.bool false) h2)
    | .none => False) := rfl
theorem vO {t : E} {a : E} {b : E}: wpE Γ (.ite t a b) l h Q = (wpE Γ t l h fun x h1 => match x with
    | .bool c => (match c with | true => wpE Γ a l h1 Q | false => wpE Γ b l h1 Q)
    | _ => False) := rfl
theorem vP {es : Es}: wpE Γ (.tup es) l h Q = (wpEs Γ es l h fun vs h1 => Q (.obj h1.length) (h1 ++ [.tup vs])) := rfl
theorem vQ {es : Es}: wpE Γ (.lst es) l h Q = (wpEs Γ es l h fun vs h1 => Q (.obj h1.length) (h1 ++ [.list vs])) := rfl
theorem vR {ks : List N} {es : Es}: wpE Γ (.dct ks es) l h Q = (wpEs Γ es l h fun vs h1 => (ks.length = vs.length ∧ ks.Nodup) ∧ Q (.obj h1.length) (h1 ++ [.dict (ks.zip vs)])) := rfl
theorem vS {f : Nat} {es : Es}: wpE Γ (.call f es) l h Q = (wpEs Γ es l h fun vs h1 => Γ f vs h1 Q) := rfl
theorem vT {c : C} {es : Es}: wpE Γ (.mk c es) l h Q = (wpEs Γ es l h fun vs h1 => Γ (initOf c) (.obj h1.length :: vs) (h1 ++ [.inst c []]) fun r h2 => r = .none ∧ Q (.obj h1.length) h2) := rfl
theorem vU {a : E}: wpE Γ (.len a) l h Q = (wpE Γ a l h fun x h1 => wpLen x h1 Q) := rfl
theorem vV {a : E}: wpE Γ (.mkBytes a) l h Q = (wpE Γ a l h fun x h1 => wpBytes x h1 Q) := rfl
theorem vW {a : E}: wpE Γ (.mkBarr a) l h Q = (wpE Γ a l h fun x h1 => match x with | .int i => (0 ≤ i ∧ i ≤ 1000) ∧ Q (.obj h1.length) (h1 ++ [.barr (List.replicate i.toNat 0)]) | _ => False) := rfl
theorem vX {a : E}: wpE Γ (.absI a) l h Q = (wpE Γ a l h fun x h1 => match x with | .int i => Q (.int i.natAbs) h1 | _ => False) := rfl
theorem vY {a : E}: wpE Γ (.toInt a) l h Q = (wpE Γ a l h fun x h1 => match x with | .int i => Q (.int i) h1 | _ => False) := rfl
theorem vZ {o : E} {f : Nat} {es : Es}: wpE Γ (.meth o f es) l h Q = (wpE Γ o l h fun x h1 => match x with
    | .obj k => (match h1[k]? with
      | some (.inst c _) => (methN f).map (·.1) = some c ∧ wpEs Γ es l h1 fun vs h2 => Γ f (x :: vs) h2 Q
      | _ => False)
    | _ => False) := rfl
theorem wA {o : E} {a : E}: wpE Γ (.append o a) l h Q = (wpE Γ o l h fun x h1 => match x with
    | .obj k => (match h1[k]? with
      | some (.list _) => wpE Γ a l h1 fun y h2 => (match h2[k]? with | some (.list vs) => vs.length < 1000 ∧ Q .none (h2.set k (.list (vs ++ [y]))) | _ => False)
      | _ => False)
    | _ => False) := rfl
theorem wB {o : E}: wpE Γ (.pop0 o) l h Q = (wpE Γ o l h fun x h1 => match x with
    | .obj k => (match h1[k]? with
      | some (.list vs) => (match vs with | v :: r => r.length < 1000 ∧ Q v (h1.set k (.list r)) | [] => False)
      | _ => False)
    | _ => False) := rfl
theorem wC {o : E} {a : E}: wpE Γ (.index o a) l h Q = (wpE Γ o l h fun x h1 => (x = .sizes ∨ x = .kinds) ∧ wpE Γ a l h1 fun y h2 => wpIndex x y h2 Q) := rfl
theorem wD {o : E} {a : E}: wpE Γ (.update o a) l h Q = (wpE Γ o l h fun x h1 => match x with
    | .obj i => (match h1[i]? with
      | some (.dict _) => wpE Γ a l h1 fun y h2 => (match y with
        | .obj j => (match h2[i]? with
          | some (.dict kv) => (match h2[j]? with
            | some (.dict kw) => (i ≠ j ∧ kv.length + kw.length < 100) ∧ Q .none (h2.set i (.dict (putAll kv kw)))
            | _ => False)
          | _ => False)
        | _ => False)
      | _ => False)
    | _ => False) := rfl
theorem wE {a : E} {b : E}: wpE Γ (.join a b) l h Q = (wpE Γ a l h fun x h1 => x = .bytes [] ∧ wpE Γ b l h1 fun y h2 => match y with
    | .obj k => (match h2[k]? with
      | some (.list vs) => (match bytesOf vs with
        | some bs => (2 ≤ bs.length ∧ bs.flatten.length ≤ 1000000) ∧ Q (.bytes bs.flatten) h2
        | .none => False)
      | _ => False)
    | _ => False) := rfl
theorem wF {o : E} {n : N}: wpE Γ (.attr o n) l h Q = (wpE Γ o l h fun x h1 => wpAttr x n h1 Q) := rfl
theorem wG {o : E} {i : E}: wpE Γ (.idx o i) l h Q = (wpE Γ o l h fun x h1 => wpE Γ i l h1 fun y h2 => wpIdx x y h2 Q) := rfl
theorem wH {o : E} {lo : E}: wpE Γ (.slcF o lo) l h Q = (wpE Γ o l h fun x h1 => wpE Γ lo l h1 fun a h2 => match a with | .int i => wpSlc x (some i) .none h2 Q | _ => False) := rfl
theorem wI {o : E} {hi : E}: wpE Γ (.slcT o hi) l h Q = (wpE Γ o l h fun x h1 => wpE Γ hi l h1 fun a h2 => match a with | .int i => wpSlc x .none (some i) h2 Q | _ => False) := rfl
theorem wJ {o : E} {lo : E} {hi : E}: wpE Γ (.slc o lo hi) l h Q = (wpE Γ o l h fun x h1 => wpE Γ lo l h1 fun a h2 => wpE Γ hi l h2 fun b h3 => match a with
    | .int i => (match b with | .int j => wpSlc x (some i) (some j) h3 Q | _ => False)
    | _ => False) := rfl
end
section
variable {Γ : Nat → List V → H → K1 → Prop} {l : L} {h : H} {Q : K2}
theorem xA {e : E}: wpS Γ (.expr e) l h Q = (wpE Γ e l h fun v h1 => v = .none ∧ Q .next l h1) := rfl
theorem xC {o : E} {n : N} {op : Operator} {e : E}: wpS Γ (.aug o n op e) l h Q = (wpE Γ o l h fun x h1 => wpAttr x n h1 fun y h2 => wpE Γ e l h2 fun z h3 => (match y with | .int _ => True | _ => False) ∧ wpBin op y z h3 fun r h4 => wpSetAttr x n r h4 fun h5 => Q .next l h5) := rfl
theorem xD {t : E} {a : Ss} {b : Ss}: wpS Γ (.ite t a b) l h Q = (wpE Γ t l h fun x h1 => match x with
    | .bool c => (match c with | true => wpSs Γ a l h1 Q | false => wpSs Γ b l h1 Q)
    | _ => False) := rfl
theorem xG {e : E}: wpS Γ (.ret e) l h Q = (wpE Γ e l h fun v h1 => Q (.ret v) l h1) := rfl
theorem xH : wpS Γ .brk l h Q = (Q .brk l h) := rfl
theorem xI {b : Ss}: wpS Γ (.try_ b) l h Q = (wpSs Γ b l h Q) := rfl
theorem xJ : wpS Γ .raise l h Q = (False
) := rfl
end
section
variable {Γ : Nat → List V → H → K1 → Prop} {l : L} {h : H}
theorem tA {t : T0} {v : V} {Q : L → H → Prop} : wpT Γ (.one t) v l h Q = wpT0 Γ t v l h Q := rfl
theorem tB {ts : List T0} {k : Nat} {Q : L → H → Prop} : wpT Γ (.tup ts) (.obj k) l h Q = (match h[k]? with | some (.tup vs) => vs.length = ts.length ∧ wpT0s Γ ts vs l h Q | _ => False) := rfl
theorem tC {ts : List T0} {k : Nat} {Q : L → H → Prop} : wpT Γ (.rev ts) (.obj k) l h Q = (match h[k]? with | some (.tup vs) => vs.length = ts.length ∧ wpT0s Γ ts.reverse vs.reverse l h Q | _ => False) := rfl
theorem tD {i : Nat} {v : V} {Q : L → H → Prop} : wpT0 Γ (.loc i) v l h Q = (match l[i]? with | some _ => Q (l.set i (some v)) h | .none => False) := rfl
theorem tE {o : E} {n : N} {v : V} {Q : L → H → Prop} : wpT0 Γ (.attr o n) v l h Q = wpE Γ o l h fun x h1 => wpSetAttr x n v h1 fun h2 => Q l h2 := rfl
theorem tF {o k : E} {v : V} {Q : L → H → Prop} : wpT0 Γ (.sub o k) v l h Q = wpE Γ o l h fun x h1 => wpE Γ k l h1 fun y h2 => wpSetItem x y v h2 fun h3 => Q l h3 := rfl
end
/- short names of lemmas that the lists below use often -/
theorem qA (p : Prop) : (True ∧ p) = p := true_and p
theorem qB (p : Prop) : (p ∧ True) = p := and_true p
theorem qC {a : Prop} (α : Sort _) [Nonempty α] : (α → a) ↔ a := forall_const α
theorem qD (p : Prop) : (True → p) = p := true_implies p
theorem qE {α : Sort _} {h : Decidable True} (t e : α) : (if True then t else e) = t := if_pos trivial
theorem qF {α : Sort _} {h : Decidable False} (t e : α) : (if False then t else e) = e := if_neg id
theorem qG : (false = true) = False := Bool.false_eq_true
theorem qH {h : Decidable True} : decide True = true := decide_eq_true trivial
theorem qI {h : Decidable False} : decide False = false := decide_eq_false id
theorem qJ (p : Prop) : (False → p) = True := false_implies p
theorem qK (p : Prop) : (True ∨ p) = True := true_or p
theorem qL (p : Prop) : (p ∨ True) = True := or_true p
theorem qM (p : Prop) : (False ∨ p) = p := false_or p
theorem qN (p : Prop) : (p ∨ False) = p := or_false p
theorem zA {α : Type} {a : α} {l : List α} : (a :: l)[0]? = some a := rfl
theorem zB {α : Type} {a : α} {l : List α} {i : Nat} : (a :: l)[i + 1]? = l[i]? := rfl
theorem zC {α : Type} {a b : α} {l : List α} : (a :: l).set 0 b = b :: l := rfl
theorem zD {α : Type} {a b : α} {l : List α} {n : Nat} : (a :: l).set (n + 1) b = a :: l.set n b := rfl
theorem zE {α : Type} {a : α} {l : List α} : (a :: l).length = l.length + 1 := rfl
theorem zF {α : Type} : ([] : List α).length = 0 := rfl
theorem zG (n : Nat) : 0 < n.succ := Nat.zero_lt_succ n
theorem zH {α β : Type} {f : α → β} {a : α} {l : List α} : (a :: l).map f = f a :: l.map f := rfl
theorem zI {α β : Type} {f : α → β} : ([] : List α).map f = [] := rfl
theorem zJ (a b : Int) : (V.int a = V.int b) = (a = b) := V.int.injEq a b
theorem zK (a b : Bool) : (V.bool a = V.bool b) = (a = b) := V.bool.injEq a b
theorem zL (a b : N) : (V.str a = V.str b) = (a = b) := V.str.injEq a b
theorem zM (a b : List UInt8) : (V.bytes a = V.bytes b) = (a = b) := V.bytes.injEq a b
theorem zN (a b : Nat) : (V.obj a = V.obj b) = (a = b) := V.obj.injEq a b
theorem zO : (!true) = false := rfl
theorem zP : (!false) = true := rfl
theorem zQ {α β : Type} {f : α → β} {a : α} : (some a).map f = some (f a) := rfl
theorem zR {α β : Type} {f : α → β} : (none : Option α).map f = none := rfl
theorem zS {α : Type} (a b : α) : (some a = some b) = (a = b) := Option.some.injEq a b
theorem zT {α : Type} : ([] : List α).Nodup := List.nodup_nil
theorem zU {α : Type} {a : α} {l : List α} : (a :: l).reverse = l.reverse ++ [a] := List.reverse_cons
theorem zV {α : Type} : ([] : List α).reverse = [] := rfl
theorem zW {α : Type} (l : List α) : [] ++ l = l := rfl
theorem zX {α : Type} {a : α} {l m : List α} : a :: l ++ m = a :: (l ++ m) := rfl
theorem zY {α : Type} {a d : α} {l : List α} : (a :: l).getD 0 d = a := rfl
theorem zZ {α : Type} {a d : α} {l : List α} {n : Nat} : (a :: l).getD (n + 1) d = l.getD n d := rfl
/-- what a callee leaves as it was -/
noncomputable def Fr (S : List Nat) (h h' : H) : Prop := h.length ≤ h'.length ∧ ∀ k o, h[k]? = some o → k ∉ S → h'[k]? = some o
theorem Fr.refl {S : List Nat} (h : H) : Fr S h h := ⟨Nat.le_refl _, fun _ _ e _ => e⟩
theorem Fr.trans {S : List Nat} {h h₁ h₂ : H} (x : Fr S h h₁) (y : Fr S h₁ h₂) : Fr S h h₂ := ⟨Nat.le_trans x.1 y.1, fun k o e n => y.2 k o (x.2 k o e n) n⟩
theorem Fr.app {S : List Nat} (h g : H) : Fr S h (h ++ g) := ⟨by simp, fun k o e _ => by rw [List.getElem?_append_left (List.getElem?_eq_some_iff.mp e).1]; exact e⟩
theorem Fr.push {S : List Nat} {h h₁ : H} (x : Fr S h h₁) (o : O) : Fr S h (h₁ ++ [o]) := x.trans (.app _ _)
theorem Fr.mono {S S' : List Nat} {h h' : H} (x : Fr S h h') (k : ∀ i ∈ S, i ∈ S') : Fr S' h h' := ⟨x.1, fun i o e n => x.2 i o e fun m => n (k i m)⟩
/-- an object that is new since h is set -/
theorem Fr.setNew {S : List Nat} {h h₁ : H} (x : Fr S h h₁) {k : Nat} (hk : h.length ≤ k) (o : O) : Fr S h (h₁.set k o) := by
  refine ⟨by simpa using x.1, fun i o' e n => ?_⟩
  rw [List.getElem?_set_ne (by have := (List.getElem?_eq_some_iff.mp e).1; (first | lia | omega))]
  exact x.2 i o' e n
theorem Fr.setIn {S : List Nat} {h h₁ : H} (x : Fr S h h₁) {k : Nat} (hk : k ∈ S) (o : O) : Fr S h (h₁.set k o) := by
  refine ⟨by simpa using x.1, fun i o' e n => ?_⟩
  rw [List.getElem?_set_ne (by rintro rfl; exact n hk)]
  exact x.2 i o' e n
theorem get_last (h : H) (o : O) : (h ++ [o])[h.length]? = some o := by simp
theorem get_last2 (h : H) (o o' : O) : (h ++ [o] ++ [o'])[h.length]? = some o := by simp
theorem qO (h : H) (o : O) : (h ++ [o])[h.length]? = some o := get_last h o
theorem qP (h : H) (o o' : O) : (h ++ [o] ++ [o'])[h.length]? = some o := get_last2 h o o'
theorem get_set {h : H} {k : Nat} {o : O} (hk : k < h.length) : (h.set k o)[k]? = some o := by rw [List.getElem?_set_self hk]
theorem lt_of {h : H} {k : Nat} {o : O} (e : h[k]? = some o) : k < h.length := (List.getElem?_eq_some_iff.mp e).1
theorem aR1 : attrOk .reader .data = true := by decide
theorem aR2 : attrOk .reader .at_ = true := by decide
theorem aW1 : attrOk .raw .kind = true := by decide
theorem aW2 : attrOk .raw .first = true := by decide
theorem aW3 : attrOk .raw .version = true := by decide
theorem aW4 : attrOk .raw .dcid = true := by decide
theorem aW5 : attrOk .raw .scid = true := by decide
theorem aW6 : attrOk .raw .token = true := by decide
theorem aW7 : attrOk .raw .tag = true := by decide
theorem aW8 : attrOk .raw .versions = true := by decide
theorem aW9 : attrOk .raw .start = true := by decide
theorem aWa : attrOk .raw .number_at = true := by decide
theorem aWb : attrOk .raw .end_ = true := by decide
/- ==== numbers and octets ==== -/
noncomputable def beN : Nat → Nat → List UInt8
  | 0, _ => []
  | k + 1, n => beN k (n / 256) ++ [(n % 256).toUInt8]
theorem beN_length : ∀ k n, (beN k n).length = k
  | 0, _ => rfl
  | k + 1, n => by unfold beN; simp [beN_length k]
noncomputable def ofBe (b : List UInt8) : Nat := b.foldl (fun a o => a * 256 + o.toNat) 0
section
variable {w : World} {B : Heap}
theorem fn_go (bs : Base w B) (tb : Tabs B) {f np m : Nat} {xs : List Str} {b : Ss} (hf : fnFit (K w.params) f np xs b = true) {vs : List V} {h : H} {Q : K1} (hm : 1 ≤ m) (l : L) (hv : vs.length = np) (hl : vs.map some ++ List.replicate (xs.length - np) none = l)
    (q : wpSs (G w B (m - 1)) b l h fun fl _ h' => match fl with | .ret v => Q v h' | .next => Q .none h' | .brk => False) : G w B m f vs h Q := by
  obtain ⟨k, rfl⟩ : ∃ k, m = k + 1 := ⟨m - 1, by (first | lia | omega)⟩
  subst hl
  exact fn_ok bs tb hf hv q
theorem replicate_snoc (j : Nat) (x : UInt8) : List.replicate (j + 1) x = List.replicate j x ++ [x] := List.replicate_succ'
/-- the loop that lays the octets of a number -/
theorem put_step {Γ : Nat → List V → H → K1 → Prop} {n k : Nat} {i : Int} {sz : V} {b : List UInt8} {h : H} {Q : K2} (e : h[k]? = some (.barr b)) (hi : 0 ≤ i ∧ i < b.length) (hb : b.length ≤ 1000)
    (q : Q .next [some (.int ((n / 256 : Nat) : Int)), some sz, some (.obj k), some (.int i)] (h.set k (.barr (b.set i.toNat (n % 256).toUInt8)))) :
    wpSs Γ lb_put_whole_0 [some (.int n), some sz, some (.obj k), some (.int i)] h Q := by
  simp only [lb_put_whole_0, wpSs,↓xB,↓xD,↓xF,↓xG,↓xJ,↓vC,↓vF,↓vH,↓vI,↓vL,↓vM,↓vO,↓vV,↓vW,wpEs,wpOr,wpAnd,↓tA,↓tD,↓tF,wpIt,wpBin,cmpV,eqO,eqV,inV,seqOf,wpIdx,wpSlc,wpBytes,wpLen,wpIndex,wpSetItem,wpSetAttr,wpAttr,initOf,methN,posOf,sizesL,kindsL,frees,putF,getN,zA,zB,zC,zD,zE,zF,zG,qA,qB,qC,qD,qE,qF,reduceCtorEq,↓reduceIte,qG,zH,zI,zJ,zK,zL,zM,zN,qH,qI,zO,zP,zQ,zR,qJ,zS,zT,Nat.reduceAdd,Nat.reduceLT,Int.reduceLT,Int.reduceLE,Int.reduceNeg,Int.reduceSub,Int.reduceMul,Int.reduceAdd,Int.reduceToNat,qO,qP,zU,zV,zW,zX,zY,zZ,aR1,aR2,aW1,aW2,aW3,aW4,aW5,aW6,aW7,aW8,aW9,aWa,aWb,qK,qL,qM,qN, e]
  refine ⟨⟨hi.1, hi.2, by (first | lia | omega), by (first | lia | omega), hb⟩, ?_⟩
  have e1 : ((n : Int) % 256).toNat = n % 256 := by (first | lia | omega)
  have e2 : ((n : Int) / 256) = ((n / 256 : Nat) : Int) := by (first | lia | omega)
  rw [e1, e2]
  exact q
theorem put_loop {Γ : Nat → List V → H → K1 → Prop} {sz : V} : ∀ (j n : Nat) (t : List UInt8) (k : Nat) (x : Option V) (h : H) (Q : K2), j + t.length ≤ 1000 → h[k]? = some (.barr (List.replicate j 0 ++ t)) →
      (∀ n' x', Q .next [some (.int n'), some sz, some (.obj k), x'] (h.set k (.barr (beN j n ++ t)))) →
      wpFor (fun l2 h2 Q2 => wpSs Γ lb_put_whole_0 l2 h2 Q2) 3 (fun _ => True) ((List.range j).map fun (i : Nat) => V.int ((j : Int) - 1 - i)) [some (.int n), some sz, some (.obj k), x] h Q
  | 0, n, t, k, x, h, Q, _, e, q => by
    have e2 : h.set k (.barr (beN 0 n ++ t)) = h := by
      obtain ⟨hk, e'⟩ := List.getElem?_eq_some_iff.mp e
      have : beN 0 n ++ t = List.replicate 0 0 ++ t := rfl
      rw [this, ← e']
      exact List.set_getElem_self hk
    have := q n x
    rw [e2] at this
    exact this
  | j + 1, n, t, k, x, h, Q, hl, e, q => by
    rw [List.range_succ_eq_map, List.map_cons, List.map_map]
    have e1 : ((j + 1 : Nat) : Int) - 1 - ((0 : Nat) : Int) = (j : Int) := by (first | lia | omega)
    rw [e1]
    have hlen : (List.replicate (j + 1) (0 : UInt8) ++ t).length = j + 1 + t.length := by simp
    refine ⟨by simp, put_step e (by rw [hlen]; (first | lia | omega)) (by rw [hlen]; (first | lia | omega)) ⟨trivial, ?_⟩⟩
    have e2 : (List.replicate (j + 1) 0 ++ t).set (j : Int).toNat (n % 256).toUInt8 = List.replicate j 0 ++ ((n % 256).toUInt8 :: t) := by
      rw [List.replicate_succ', List.append_assoc, Int.toNat_natCast, List.set_append_right _ _ (by simp)]
      simp
    rw [e2]
    have e3 : ((fun (i : Nat) => V.int ((((j + 1 : Nat) : Int)) - 1 - i)) ∘ Nat.succ) = fun (i : Nat) => V.int ((j : Int) - 1 - i) := by
      funext i
      simp only [Function.comp]
      congr 1
      (first | lia | omega)
    rw [e3]
    have hk := lt_of e
    refine put_loop j (n / 256) ((n % 256).toUInt8 :: t) k _ _ Q (by simp; (first | lia | omega)) (by rw [List.getElem?_set_self hk]) fun n' x' => ?_
    rw [List.set_set]
    have := q n' x'
    unfold beN at this
    rw [List.append_assoc] at this
    exact this
theorem c_put_whole_x (bs : Base w B) (tb : Tabs B) {n size m : Nat} {h : H} {Q : K1} (hn : n < 256 ^ size) (hs : size ≤ 16) (hm : 1 ≤ m) (q : Q (.bytes (beN size n)) (h ++ [.barr (beN size n)])) : G w B m 82 [.int n, .int size] h Q := by
  refine fn_go bs tb (f_put_whole _) hm [some (.int n), some (.int size), none, none] rfl rfl ?_
  simp only [b_put_whole, tl_put_whole_1, tl_put_whole_3, wpSs,↓xB,↓xD,↓xF,↓xG,↓xJ,↓vC,↓vE,↓vF,↓vH,↓vI,↓vL,↓vM,↓vO,↓vV,↓vW,wpEs,wpOr,wpAnd,↓tA,↓tD,↓tF,wpIt,wpBin,cmpV,eqO,eqV,inV,seqOf,wpIdx,wpSlc,wpBytes,wpLen,wpIndex,wpSetItem,wpSetAttr,wpAttr,initOf,methN,posOf,sizesL,kindsL,frees,putF,getN,zA,zB,zC,zD,zE,zF,zG,qA,qB,qC,qD,qE,qF,reduceCtorEq,↓reduceIte,qG,zH,zI,zJ,zK,zL,zM,zN,qH,qI,zO,zP,zQ,zR,qJ,zS,zT,Nat.reduceAdd,Nat.reduceLT,Int.reduceLT,Int.reduceLE,Int.reduceNeg,Int.reduceSub,Int.reduceMul,Int.reduceAdd,Int.reduceToNat,qO,qP,zU,zV,zW,zX,zY,zZ,aR1,aR2,aW1,aW2,aW3,aW4,aW5,aW6,aW7,aW8,aW9,aWa,aWb,qK,qL,qM,qN]
  have h0 : decide ((n : Int) < 0) = false := by simp
  have h1 : (n : Int) / 2 ^ (8 * (size : Int)).toNat = 0 := by
    have e1 : (8 * (size : Int)).toNat = 8 * size := by (first | lia | omega)
    have e2 : (2 : Int) ^ (8 * size) = ((256 ^ size : Nat) : Int) := by rw [Int.pow_mul]; push_cast; rfl
    rw [e1, e2, ← Int.natCast_ediv, Nat.div_eq_of_lt hn]; rfl
  rw [h0, h1]
  simp only [wpSs,↓xB,↓xD,↓xF,↓xG,↓xJ,↓vC,↓vE,↓vF,↓vH,↓vI,↓vL,↓vM,↓vO,↓vV,↓vW,wpEs,wpOr,wpAnd,↓tA,↓tD,↓tF,wpIt,wpBin,cmpV,eqO,eqV,inV,seqOf,wpIdx,wpSlc,wpBytes,wpLen,wpIndex,wpSetItem,wpSetAttr,wpAttr,initOf,methN,posOf,sizesL,kindsL,frees,putF,getN,zA,zB,zC,zD,zE,zF,zG,qA,qB,qC,qD,qE,qF,reduceCtorEq,↓reduceIte,qG,zH,zI,zJ,zK,zL,zM,zN,qH,qI,zO,zP,zQ,zR,qJ,zS,zT,Nat.reduceAdd,Nat.reduceLT,Int.reduceLT,Int.reduceLE,Int.reduceNeg,Int.reduceSub,Int.reduceMul,Int.reduceAdd,Int.reduceToNat,qO,qP,zU,zV,zW,zX,zY,zZ,aR1,aR2,aW1,aW2,aW3,aW4,aW5,aW6,aW7,aW8,aW9,aWa,aWb,qK,qL,qM,qN]
  refine ⟨.inl (by decide), by (first | lia | omega), ⟨by (first | lia | omega), by (first | lia | omega)⟩, ⟨by (first | lia | omega), by (first | lia | omega)⟩, ?_⟩
  have e1 : rangeDown ((size : Int) - 1) (-1) = (List.range size).map fun (i : Nat) => V.int ((size : Int) - 1 - i) := by
    unfold rangeDown
    have : ((size : Int) - 1 - -1).toNat = size := by (first | lia | omega)
    rw [this]
  rw [e1]
  have e2 : ((size : Int)).toNat = size := by (first | lia | omega)
  rw [e2]
  refine put_loop size n [] h.length none (h ++ [O.barr (List.replicate size 0)]) _ (by simp; (first | lia | omega)) (by simp) fun n' x' => ?_
  have e3 : ((h ++ [O.barr (List.replicate size 0)]).set h.length (.barr (beN size n ++ [])))[h.length]? = some (.barr (beN size n)) := by simp
  simp only [wpSs,↓xB,↓xD,↓xF,↓xG,↓xJ,↓vC,↓vE,↓vF,↓vH,↓vI,↓vL,↓vM,↓vO,↓vV,↓vW,wpEs,wpOr,wpAnd,↓tA,↓tD,↓tF,wpIt,wpBin,cmpV,eqO,eqV,inV,seqOf,wpIdx,wpSlc,wpBytes,wpLen,wpIndex,wpSetItem,wpSetAttr,wpAttr,initOf,methN,posOf,sizesL,kindsL,frees,putF,getN,zA,zB,zC,zD,zE,zF,zG,qA,qB,qC,qD,qE,qF,reduceCtorEq,↓reduceIte,qG,zH,zI,zJ,zK,zL,zM,zN,qH,qI,zO,zP,zQ,zR,qJ,zS,zT,Nat.reduceAdd,Nat.reduceLT,Int.reduceLT,Int.reduceLE,Int.reduceNeg,Int.reduceSub,Int.reduceMul,Int.reduceAdd,Int.reduceToNat,qO,qP,zU,zV,zW,zX,zY,zZ,aR1,aR2,aW1,aW2,aW3,aW4,aW5,aW6,aW7,aW8,aW9,aWa,aWb,qK,qL,qM,qN, e3]
  have e4 : (h ++ [O.barr (List.replicate size 0)]).set h.length (.barr (beN size n ++ [])) = h ++ [.barr (beN size n)] := by simp
  rw [e4]
  exact ⟨by rw [beN_length]; (first | lia | omega), q⟩
theorem c_put_whole (bs : Base w B) (tb : Tabs B) {n size m : Nat} {h : H} {Q : K1} (hn : n < 256 ^ size) (hs : size ≤ 16) (hm : 1 ≤ m) (q : ∀ h', Fr [] h h' → Q (.bytes (beN size n)) h') : G w B m 82 [.int n, .int size] h Q :=
  c_put_whole_x bs tb hn hs hm (q _ (Fr.app _ _))
theorem get_step {Γ : Nat → List V → H → K1 → Prop} {a b c : Option V} {n : Nat} {u : UInt8} {h : H} {Q : K2} (q : Q .next [a, b, c, some (.int ((n * 256 + u.toNat : Nat) : Int)), some (.int u.toNat)] h) :
    wpSs Γ lb_get_whole_0 [a, b, c, some (.int n), some (.int u.toNat)] h Q := by
  simp only [lb_get_whole_0, wpSs,↓xB,↓xD,↓xF,↓xG,↓xJ,↓vC,↓vF,↓vH,↓vM,↓vO,↓vU,↓wJ,wpEs,wpOr,wpAnd,↓tA,↓tD,wpIt,wpBin,cmpV,eqO,eqV,inV,seqOf,wpIdx,wpSlc,wpBytes,wpLen,wpIndex,wpSetItem,wpSetAttr,wpAttr,initOf,methN,posOf,sizesL,kindsL,frees,putF,getN,zA,zB,zC,zD,zE,zF,zG,qA,qB,qC,qD,qE,qF,reduceCtorEq,↓reduceIte,qG,zH,zI,zJ,zK,zL,zM,zN,qH,qI,zO,zP,zQ,zR,qJ,zS,zT,Nat.reduceAdd,Nat.reduceLT,Int.reduceLT,Int.reduceLE,Int.reduceNeg,Int.reduceSub,Int.reduceMul,Int.reduceAdd,Int.reduceToNat,qO,qP,zU,zV,zW,zX,zY,zZ,aR1,aR2,aW1,aW2,aW3,aW4,aW5,aW6,aW7,aW8,aW9,aWa,aWb,qK,qL,qM,qN]
  refine ⟨.inr (by decide), ?_⟩
  have e : ((n : Int) * 256 + (u.toNat : Int)) = ((n * 256 + u.toNat : Nat) : Int) := by push_cast; rfl
  rw [e]
  exact q
theorem get_loop {Γ : Nat → List V → H → K1 → Prop} {a b c : Option V} : ∀ (d : List UInt8) (n : Nat) (x : Option V) (h : H) (Q : K2),
      (∀ x', Q .next [a, b, c, some (.int (d.foldl (fun a o => a * 256 + o.toNat) n : Nat)), x'] h) →
      wpFor (fun l2 h2 Q2 => wpSs Γ lb_get_whole_0 l2 h2 Q2) 4 (fun _ => True) (d.map fun u => V.int u.toNat) [a, b, c, some (.int n), x] h Q
  | [], n, x, h, Q, q => q x
  | u :: d, n, x, h, Q, q => by
    exact ⟨by simp, get_step ⟨trivial, get_loop d _ _ h Q q⟩⟩
noncomputable def sl (d : List UInt8) (at_ many : Nat) : List UInt8 := (d.drop at_).take many
theorem clip_nat {n i : Nat} (h : i ≤ n) : clip n (i : Int) = i := by unfold clip; rw [if_neg (by first | exact mm hm | exact m1 hm | decide | (first | lia | omega))]; simp; (first | lia | omega)
theorem cut_nat {d : List UInt8} {a b : Nat} (ha : a ≤ b) (hb : b ≤ d.length) : cut d (some (a : Int)) (some (b : Int)) = sl d a (b - a) := by
  unfold cut sl
  simp only [Option.elim]
  rw [clip_nat (n := d.length) (i := a) (by first | exact mm hm | exact m1 hm | decide | (first | lia | omega)), clip_nat hb]
theorem cut_from {d : List UInt8} {a : Nat} (ha : a ≤ d.length) : cut d (some (a : Int)) none = d.drop a := by
  unfold cut
  simp only [Option.elim]
  rw [clip_nat ha, List.take_of_length_le (by simp)]
theorem cut_to {d : List UInt8} {b : Nat} (hb : b ≤ d.length) : cut d none (some (b : Int)) = d.take b := by
  unfold cut
  simp only [Option.elim]
  rw [clip_nat hb]; rfl
theorem c_get_whole (bs : Base w B) (tb : Tabs B) {d : List UInt8} {a size m : Nat} {h : H} {Q : K1} (hd : a + size ≤ d.length) (hm : 1 ≤ m) (q : Q (.int (ofBe (sl d a size))) h) : G w B m 89 [.bytes d, .int a, .int size] h Q := by
  refine fn_go bs tb (f_get_whole _) hm [some (.bytes d), some (.int a), some (.int size), none, none] rfl rfl ?_
  simp only [b_get_whole, tl_get_whole_1, tl_get_whole_3, wpSs,↓xB,↓xD,↓xF,↓xG,↓xJ,↓vC,↓vE,↓vF,↓vH,↓vM,↓vO,↓vU,↓wJ,wpEs,wpOr,wpAnd,↓tA,↓tD,wpIt,wpBin,cmpV,eqO,eqV,inV,seqOf,wpIdx,wpSlc,wpBytes,wpLen,wpIndex,wpSetItem,wpSetAttr,wpAttr,initOf,methN,posOf,sizesL,kindsL,frees,putF,getN,zA,zB,zC,zD,zE,zF,zG,qA,qB,qC,qD,qE,qF,reduceCtorEq,↓reduceIte,qG,zH,zI,zJ,zK,zL,zM,zN,qH,qI,zO,zP,zQ,zR,qJ,zS,zT,Nat.reduceAdd,Nat.reduceLT,Int.reduceLT,Int.reduceLE,Int.reduceNeg,Int.reduceSub,Int.reduceMul,Int.reduceAdd,Int.reduceToNat,qO,qP,zU,zV,zW,zX,zY,zZ,aR1,aR2,aW1,aW2,aW3,aW4,aW5,aW6,aW7,aW8,aW9,aWa,aWb,qK,qL,qM,qN]
  have h0 : decide ((a : Int) + size > d.length) = false := by simp; (first | lia | omega)
  rw [h0]
  simp only [wpSs,↓xB,↓xD,↓xF,↓xG,↓xJ,↓vC,↓vE,↓vF,↓vH,↓vM,↓vO,↓vU,↓wJ,wpEs,wpOr,wpAnd,↓tA,↓tD,wpIt,wpBin,cmpV,eqO,eqV,inV,seqOf,wpIdx,wpSlc,wpBytes,wpLen,wpIndex,wpSetItem,wpSetAttr,wpAttr,initOf,methN,posOf,sizesL,kindsL,frees,putF,getN,zA,zB,zC,zD,zE,zF,zG,qA,qB,qC,qD,qE,qF,reduceCtorEq,↓reduceIte,qG,zH,zI,zJ,zK,zL,zM,zN,qH,qI,zO,zP,zQ,zR,qJ,zS,zT,Nat.reduceAdd,Nat.reduceLT,Int.reduceLT,Int.reduceLE,Int.reduceNeg,Int.reduceSub,Int.reduceMul,Int.reduceAdd,Int.reduceToNat,qO,qP,zU,zV,zW,zX,zY,zZ,aR1,aR2,aW1,aW2,aW3,aW4,aW5,aW6,aW7,aW8,aW9,aWa,aWb,qK,qL,qM,qN]
  have e : ((a : Int) + (size : Int)) = ((a + size : Nat) : Int) := by push_cast; rfl
  rw [e, cut_nat (by first | exact mm hm | exact m1 hm | decide | (first | lia | omega)) hd, Nat.add_sub_cancel_left]
  refine get_loop (sl d a size) 0 none h _ fun x' => ?_
  simp only [wpSs,↓xB,↓xD,↓xF,↓xG,↓xJ,↓vC,↓vE,↓vF,↓vH,↓vM,↓vO,↓vU,↓wJ,wpEs,wpOr,wpAnd,↓tA,↓tD,wpIt,wpBin,cmpV,eqO,eqV,inV,seqOf,wpIdx,wpSlc,wpBytes,wpLen,wpIndex,wpSetItem,wpSetAttr,wpAttr,initOf,methN,posOf,sizesL,kindsL,frees,putF,getN,zA,zB,zC,zD,zE,zF,zG,qA,qB,qC,qD,qE,qF,reduceCtorEq,↓reduceIte,qG,zH,zI,zJ,zK,zL,zM,zN,qH,qI,zO,zP,zQ,zR,qJ,zS,zT,Nat.reduceAdd,Nat.reduceLT,Int.reduceLT,Int.reduceLE,Int.reduceNeg,Int.reduceSub,Int.reduceMul,Int.reduceAdd,Int.reduceToNat,qO,qP,zU,zV,zW,zX,zY,zZ,aR1,aR2,aW1,aW2,aW3,aW4,aW5,aW6,aW7,aW8,aW9,aWa,aWb,qK,qL,qM,qN]
  exact q
/- ==== the hash ==== -/
noncomputable def M127 : Nat := 170141183460469231731687303715884105727
noncomputable def FAC : Nat := 6364136223846793005
noncomputable def mixG (f : Nat) (b : List UInt8) : Nat := b.foldl (fun f o => (f * FAC + o.toNat + 1) % M127) f
noncomputable def mix (s : Nat) (b : List UInt8) : Nat := mixG (s % M127) b
theorem mix_step {Γ : Nat → List V → H → K1 → Prop} {a b : Option V} {n : Nat} {u : UInt8} {h : H} {Q : K2} (q : Q .next [a, b, some (.int ((n * FAC + u.toNat + 1) % M127 : Nat)), some (.int u.toNat)] h) :
    wpSs Γ lb_mixed_octets_0 [a, b, some (.int n), some (.int u.toNat)] h Q := by
  simp only [lb_mixed_octets_0, wpSs,↓xB,↓xF,↓xG,↓vC,↓vF,↓vG,↓vH,wpEs,wpOr,wpAnd,↓tA,↓tD,wpIt,wpBin,cmpV,eqO,eqV,inV,seqOf,wpIdx,wpSlc,wpBytes,wpLen,wpIndex,wpSetItem,wpSetAttr,wpAttr,initOf,methN,posOf,sizesL,kindsL,frees,putF,getN,zA,zB,zC,zD,zE,zF,zG,qA,qB,qC,qD,qE,qF,reduceCtorEq,↓reduceIte,qG,zH,zI,zJ,zK,zL,zM,zN,qH,qI,zO,zP,zQ,zR,qJ,zS,zT,Nat.reduceAdd,Nat.reduceLT,Int.reduceLT,Int.reduceLE,Int.reduceNeg,Int.reduceSub,Int.reduceMul,Int.reduceAdd,Int.reduceToNat,qO,qP,zU,zV,zW,zX,zY,zZ,aR1,aR2,aW1,aW2,aW3,aW4,aW5,aW6,aW7,aW8,aW9,aWa,aWb,qK,qL,qM,qN]
  refine ⟨.inr (by decide), ?_⟩
  have e : ((n : Int) * 6364136223846793005 + (u.toNat : Int) + 1) % 170141183460469231731687303715884105727 = (((n * FAC + u.toNat + 1) % M127 : Nat) : Int) := by
    rw [Int.natCast_emod, Int.natCast_add, Int.natCast_add, Int.natCast_mul]; rfl
  rw [e]
  exact q
theorem mix_loop {Γ : Nat → List V → H → K1 → Prop} {a b : Option V} : ∀ (d : List UInt8) (n : Nat) (x : Option V) (h : H) (Q : K2),
      (∀ x', Q .next [a, b, some (.int (mixG n d : Nat)), x'] h) →
      wpFor (fun l2 h2 Q2 => wpSs Γ lb_mixed_octets_0 l2 h2 Q2) 3 (fun _ => True) (d.map fun u => V.int u.toNat) [a, b, some (.int n), x] h Q
  | [], n, x, h, Q, q => q x
  | u :: d, n, x, h, Q, q => by
    exact ⟨by simp, mix_step ⟨trivial, mix_loop d _ _ h Q q⟩⟩
theorem mixG_lt (f : Nat) (hf : f < M127) (b : List UInt8) : mixG f b < M127 := by
  unfold mixG
  induction b generalizing f with
  | nil => exact hf
  | cons x b ih => exact ih _ (Nat.mod_lt _ (by decide))
theorem mix_lt (s : Nat) (b : List UInt8) : mix s b < M127 := mixG_lt _ (Nat.mod_lt _ (by decide)) b
theorem c_mixed (bs : Base w B) (tb : Tabs B) {d : List UInt8} {s m : Nat} {h : H} {Q : K1} (hm : 1 ≤ m) (q : Q (.int (mix s d)) h) : G w B m 284 [.int s, .bytes d] h Q := by
  refine fn_go bs tb (f_mixed_octets _) hm [some (.int s), some (.bytes d), none, none] rfl rfl ?_
  simp only [b_mixed_octets, tl_mixed_octets_2, wpSs,↓xB,↓xF,↓xG,↓vC,↓vE,↓vF,↓vG,↓vH,wpEs,wpOr,wpAnd,↓tA,↓tD,wpIt,wpBin,cmpV,eqO,eqV,inV,seqOf,wpIdx,wpSlc,wpBytes,wpLen,wpIndex,wpSetItem,wpSetAttr,wpAttr,initOf,methN,posOf,sizesL,kindsL,frees,putF,getN,zA,zB,zC,zD,zE,zF,zG,qA,qB,qC,qD,qE,qF,reduceCtorEq,↓reduceIte,qG,zH,zI,zJ,zK,zL,zM,zN,qH,qI,zO,zP,zQ,zR,qJ,zS,zT,Nat.reduceAdd,Nat.reduceLT,Int.reduceLT,Int.reduceLE,Int.reduceNeg,Int.reduceSub,Int.reduceMul,Int.reduceAdd,Int.reduceToNat,qO,qP,zU,zV,zW,zX,zY,zZ,aR1,aR2,aW1,aW2,aW3,aW4,aW5,aW6,aW7,aW8,aW9,aWa,aWb,qK,qL,qM,qN]
  have e : ((s : Int) % 170141183460469231731687303715884105727) = ((s % M127 : Nat) : Int) := by rw [Int.natCast_emod]; rfl
  rw [e]
  refine mix_loop d (s % M127) none h _ fun x' => ?_
  simp only [wpSs,↓xB,↓xF,↓xG,↓vC,↓vE,↓vF,↓vG,↓vH,wpEs,wpOr,wpAnd,↓tA,↓tD,wpIt,wpBin,cmpV,eqO,eqV,inV,seqOf,wpIdx,wpSlc,wpBytes,wpLen,wpIndex,wpSetItem,wpSetAttr,wpAttr,initOf,methN,posOf,sizesL,kindsL,frees,putF,getN,zA,zB,zC,zD,zE,zF,zG,qA,qB,qC,qD,qE,qF,reduceCtorEq,↓reduceIte,qG,zH,zI,zJ,zK,zL,zM,zN,qH,qI,zO,zP,zQ,zR,qJ,zS,zT,Nat.reduceAdd,Nat.reduceLT,Int.reduceLT,Int.reduceLE,Int.reduceNeg,Int.reduceSub,Int.reduceMul,Int.reduceAdd,Int.reduceToNat,qO,qP,zU,zV,zW,zX,zY,zZ,aR1,aR2,aW1,aW2,aW3,aW4,aW5,aW6,aW7,aW8,aW9,aWa,aWb,qK,qL,qM,qN]
  exact q
end
end Mine
end
section
set_option maxRecDepth 100000
set_option maxHeartbeats 2000000
set_option backward.match.sparseCases false
set_option linter.all false
namespace Mine
open PySem PySem.W
section
variable {w : World} {B : Heap}
theorem c_varint_size (bs : Base w B) (tb : Tabs B) {n m : Nat} {h : H} {Q : K1} (hn : n < 64) (hm : 1 ≤ m) (q : Q (.int 1) h) : G w B m 96 [.int n] h Q := by
  refine fn_go bs tb (f_varint_size _) hm [some (.int n), none] rfl rfl ?_
  simp only [b_varint_size, wpSs,↓xD,↓xF,↓xG,↓xJ,↓vC,↓vF,↓vG,↓vH,↓vN,↓vO,wpEs,wpOr,wpAnd,↓tD,wpIt,wpBin,cmpV,eqO,eqV,inV,seqOf,wpIdx,wpSlc,wpBytes,wpLen,wpIndex,wpSetItem,wpSetAttr,wpAttr,initOf,methN,posOf,sizesL,kindsL,frees,putF,getN,zA,zB,zC,zD,zE,zF,zG,qA,qB,qC,qD,qE,qF,reduceCtorEq,↓reduceIte,qG,zH,zI,zJ,zK,zL,zM,zN,qH,qI,zO,zP,zQ,zR,qJ,zS,zT,Nat.reduceAdd,Nat.reduceLT,Int.reduceLT,Int.reduceLE,Int.reduceNeg,Int.reduceSub,Int.reduceMul,Int.reduceAdd,Int.reduceToNat,qO,qP,zU,zV,zW,zX,zY,zZ,aR1,aR2,aW1,aW2,aW3,aW4,aW5,aW6,aW7,aW8,aW9,aWa,aWb,qK,qL,qM,qN]
  refine ⟨by simp, ?_⟩
  simp only [lb_varint_size_0, wpSs,↓xD,↓xF,↓xG,↓xJ,↓vC,↓vF,↓vG,↓vH,↓vN,↓vO,wpEs,wpOr,wpAnd,↓tD,wpIt,wpBin,cmpV,eqO,eqV,inV,seqOf,wpIdx,wpSlc,wpBytes,wpLen,wpIndex,wpSetItem,wpSetAttr,wpAttr,initOf,methN,posOf,sizesL,kindsL,frees,putF,getN,zA,zB,zC,zD,zE,zF,zG,qA,qB,qC,qD,qE,qF,reduceCtorEq,↓reduceIte,qG,zH,zI,zJ,zK,zL,zM,zN,qH,qI,zO,zP,zQ,zR,qJ,zS,zT,Nat.reduceAdd,Nat.reduceLT,Int.reduceLT,Int.reduceLE,Int.reduceNeg,Int.reduceSub,Int.reduceMul,Int.reduceAdd,Int.reduceToNat,qO,qP,zU,zV,zW,zX,zY,zZ,aR1,aR2,aW1,aW2,aW3,aW4,aW5,aW6,aW7,aW8,aW9,aWa,aWb,qK,qL,qM,qN]
  have h1 : decide ((0 : Int) ≤ n) = true := by simp
  have h2 : decide ((n : Int) < 1 * 2 ^ (6 : Nat)) = true := by simp; (first | lia | omega)
  rw [h1]
  simp only [wpSs,↓xD,↓xF,↓xG,↓xJ,↓vC,↓vF,↓vG,↓vH,↓vN,↓vO,wpEs,wpOr,wpAnd,↓tD,wpIt,wpBin,cmpV,eqO,eqV,inV,seqOf,wpIdx,wpSlc,wpBytes,wpLen,wpIndex,wpSetItem,wpSetAttr,wpAttr,initOf,methN,posOf,sizesL,kindsL,frees,putF,getN,zA,zB,zC,zD,zE,zF,zG,qA,qB,qC,qD,qE,qF,reduceCtorEq,↓reduceIte,qG,zH,zI,zJ,zK,zL,zM,zN,qH,qI,zO,zP,zQ,zR,qJ,zS,zT,Nat.reduceAdd,Nat.reduceLT,Int.reduceLT,Int.reduceLE,Int.reduceNeg,Int.reduceSub,Int.reduceMul,Int.reduceAdd,Int.reduceToNat,qO,qP,zU,zV,zW,zX,zY,zZ,aR1,aR2,aW1,aW2,aW3,aW4,aW5,aW6,aW7,aW8,aW9,aWa,aWb,qK,qL,qM,qN, h2]
  refine ⟨by decide, by decide, ?_⟩
  exact q
theorem toU8 (n : Nat) : n.toUInt8.toNat = n % 256 := rfl
theorem c_put_varint (bs : Base w B) (tb : Tabs B) {n m : Nat} {h : H} {Q : K1} (hn : n < 64) (hm : 2 ≤ m) (q : ∀ h', Fr [] h h' → Q (.bytes [n.toUInt8]) h') : G w B m 103 [.int n, .none] h Q := by
  refine fn_go bs tb (f_put_varint _) (by first | exact mm hm | exact m1 hm | decide | (first | lia | omega)) [some (.int n), some .none, none] rfl rfl ?_
  simp only [b_put_varint, wpSs,↓xB,↓xD,↓xG,↓xJ,↓vA,↓vC,↓vE,↓vF,↓vG,↓vH,↓vL,↓vM,↓vO,↓vS,↓wC,wpEs,wpOr,wpAnd,↓tA,↓tD,wpIt,wpBin,cmpV,eqO,eqV,inV,seqOf,wpIdx,wpSlc,wpBytes,wpLen,wpIndex,wpSetItem,wpSetAttr,wpAttr,initOf,methN,posOf,sizesL,kindsL,frees,putF,getN,zA,zB,zC,zD,zE,zF,zG,qA,qB,qC,qD,qE,qF,reduceCtorEq,↓reduceIte,qG,zH,zI,zJ,zK,zL,zM,zN,qH,qI,zO,zP,zQ,zR,qJ,zS,zT,Nat.reduceAdd,Nat.reduceLT,Int.reduceLT,Int.reduceLE,Int.reduceNeg,Int.reduceSub,Int.reduceMul,Int.reduceAdd,Int.reduceToNat,qO,qP,zU,zV,zW,zX,zY,zZ,aR1,aR2,aW1,aW2,aW3,aW4,aW5,aW6,aW7,aW8,aW9,aWa,aWb,qK,qL,qM,qN]
  refine c_varint_size bs tb hn (by first | exact mm hm | exact m1 hm | decide | (first | lia | omega)) ?_
  have hc : [V.int 1, V.int 2, V.int 4, V.int 8].contains (V.int 1) = true := by decide
  simp only [tl_put_varint_1, tl_put_varint_2, tl_put_varint_3, hc, wpSs,↓xB,↓xD,↓xG,↓xJ,↓vA,↓vC,↓vE,↓vF,↓vG,↓vH,↓vL,↓vM,↓vO,↓vS,↓wC,wpEs,wpOr,wpAnd,↓tA,↓tD,wpIt,wpBin,cmpV,eqO,eqV,inV,seqOf,wpIdx,wpSlc,wpBytes,wpLen,wpIndex,wpSetItem,wpSetAttr,wpAttr,initOf,methN,posOf,sizesL,kindsL,frees,putF,getN,zA,zB,zC,zD,zE,zF,zG,qA,qB,qC,qD,qE,qF,reduceCtorEq,↓reduceIte,qG,zH,zI,zJ,zK,zL,zM,zN,qH,qI,zO,zP,zQ,zR,qJ,zS,zT,Nat.reduceAdd,Nat.reduceLT,Int.reduceLT,Int.reduceLE,Int.reduceNeg,Int.reduceSub,Int.reduceMul,Int.reduceAdd,Int.reduceToNat,qO,qP,zU,zV,zW,zX,zY,zZ,aR1,aR2,aW1,aW2,aW3,aW4,aW5,aW6,aW7,aW8,aW9,aWa,aWb,qK,qL,qM,qN, allInt, Int.lt_irrefl]
  refine ⟨by decide, by decide, by (first | lia | omega), ?_⟩
  have e : (((0 : Nat) : Int) * 2 ^ 6).toNat ||| (n : Int).toNat = n := by simp
  rw [e]
  refine c_put_whole bs tb (n := n) (size := 1) (by first | exact mm hm | exact m1 hm | decide | (first | lia | omega)) (by first | exact mm hm | exact m1 hm | decide | (first | lia | omega)) (by first | exact mm hm | exact m1 hm | decide | (first | lia | omega)) fun h' fr => ?_
  have e : beN 1 n = [n.toUInt8] := by
    unfold beN beN
    rw [Nat.mod_eq_of_lt (by first | exact mm hm | exact m1 hm | decide | (first | lia | omega))]; rfl
  rw [e]
  exact q h' fr
theorem c_get_varint (bs : Base w B) (tb : Tabs B) {D : List UInt8} {a m : Nat} {b : UInt8} {h : H} {Q : K1} (hb : D[a]? = some b) (hn : b.toNat < 64) (hm : 2 ≤ m)
    (q : ∀ h' k, Fr [] h h' → h'[k]? = some (.tup [.int b.toNat, .int ((a + 1 : Nat) : Int)]) → Q (.obj k) h') : G w B m 110 [.bytes D, .int a] h Q := by
  refine fn_go bs tb (f_get_varint _) (by first | exact mm hm | exact m1 hm | decide | (first | lia | omega)) [some (.bytes D), some (.int a), none] rfl rfl ?_
  have hlt := (List.getElem?_eq_some_iff.mp hb).1
  have h0 : decide ((a : Int) ≥ (D.length : Int)) = false := by simp; (first | lia | omega)
  simp only [b_get_varint, wpSs,↓xB,↓xD,↓xG,↓xJ,↓vC,↓vE,↓vF,↓vG,↓vH,↓vM,↓vO,↓vP,↓vS,↓vU,↓wG,wpEs,wpOr,wpAnd,↓tA,↓tB,↓tD,↓yA,↓yB,wpIt,wpBin,cmpV,eqO,eqV,inV,seqOf,wpIdx,wpSlc,wpBytes,wpLen,wpIndex,wpSetItem,wpSetAttr,wpAttr,initOf,methN,posOf,sizesL,kindsL,frees,putF,getN,zA,zB,zC,zD,zE,zF,zG,qA,qB,qC,qD,qE,qF,reduceCtorEq,↓reduceIte,qG,zH,zI,zJ,zK,zL,zM,zN,qH,qI,zO,zP,zQ,zR,qJ,zS,zT,Nat.reduceAdd,Nat.reduceLT,Int.reduceLT,Int.reduceLE,Int.reduceNeg,Int.reduceSub,Int.reduceMul,Int.reduceAdd,Int.reduceToNat,qO,qP,zU,zV,zW,zX,zY,zZ,aR1,aR2,aW1,aW2,aW3,aW4,aW5,aW6,aW7,aW8,aW9,aWa,aWb,qK,qL,qM,qN, h0]
  simp only [tl_get_varint_1, wpSs,↓xB,↓xD,↓xG,↓xJ,↓vC,↓vE,↓vF,↓vG,↓vH,↓vM,↓vO,↓vP,↓vS,↓vU,↓wG,wpEs,wpOr,wpAnd,↓tA,↓tB,↓tD,↓yA,↓yB,wpIt,wpBin,cmpV,eqO,eqV,inV,seqOf,wpIdx,wpSlc,wpBytes,wpLen,wpIndex,wpSetItem,wpSetAttr,wpAttr,initOf,methN,posOf,sizesL,kindsL,frees,putF,getN,zA,zB,zC,zD,zE,zF,zG,qA,qB,qC,qD,qE,qF,reduceCtorEq,↓reduceIte,qG,zH,zI,zJ,zK,zL,zM,zN,qH,qI,zO,zP,zQ,zR,qJ,zS,zT,Nat.reduceAdd,Nat.reduceLT,Int.reduceLT,Int.reduceLE,Int.reduceNeg,Int.reduceSub,Int.reduceMul,Int.reduceAdd,Int.reduceToNat,qO,qP,zU,zV,zW,zX,zY,zZ,aR1,aR2,aW1,aW2,aW3,aW4,aW5,aW6,aW7,aW8,aW9,aWa,aWb,qK,qL,qM,qN]
  have e1 : (if (a : Int) < 0 then (a : Int) + D.length else (a : Int)).toNat = a := by rw [if_neg (by first | exact mm hm | exact m1 hm | decide | (first | lia | omega))]; simp
  have e2 : D.getD a 0 = b := by rw [List.getD_eq_getElem?_getD, hb]; rfl
  have e3 : ((b.toNat : Int) / 2 ^ (6 : Nat)) = 0 := by (first | lia | omega)
  rw [e1, e2, e3]
  simp only [wpSs,↓xB,↓xD,↓xG,↓xJ,↓vC,↓vE,↓vF,↓vG,↓vH,↓vM,↓vO,↓vP,↓vS,↓vU,↓wG,wpEs,wpOr,wpAnd,↓tA,↓tB,↓tD,↓yA,↓yB,wpIt,wpBin,cmpV,eqO,eqV,inV,seqOf,wpIdx,wpSlc,wpBytes,wpLen,wpIndex,wpSetItem,wpSetAttr,wpAttr,initOf,methN,posOf,sizesL,kindsL,frees,putF,getN,zA,zB,zC,zD,zE,zF,zG,qA,qB,qC,qD,qE,qF,reduceCtorEq,↓reduceIte,qG,zH,zI,zJ,zK,zL,zM,zN,qH,qI,zO,zP,zQ,zR,qJ,zS,zT,Nat.reduceAdd,Nat.reduceLT,Int.reduceLT,Int.reduceLE,Int.reduceNeg,Int.reduceSub,Int.reduceMul,Int.reduceAdd,Int.reduceToNat,qO,qP,zU,zV,zW,zX,zY,zZ,aR1,aR2,aW1,aW2,aW3,aW4,aW5,aW6,aW7,aW8,aW9,aWa,aWb,qK,qL,qM,qN]
  refine ⟨⟨by (first | lia | omega), by (first | lia | omega)⟩, c_get_whole bs tb (d := D) (a := a) (size := 1) (by first | exact mm hm | exact m1 hm | decide | (first | lia | omega)) (by first | exact mm hm | exact m1 hm | decide | (first | lia | omega)) ?_⟩
  simp only [wpSs,↓xB,↓xD,↓xG,↓xJ,↓vC,↓vE,↓vF,↓vG,↓vH,↓vM,↓vO,↓vP,↓vS,↓vU,↓wG,wpEs,wpOr,wpAnd,↓tA,↓tB,↓tD,↓yA,↓yB,wpIt,wpBin,cmpV,eqO,eqV,inV,seqOf,wpIdx,wpSlc,wpBytes,wpLen,wpIndex,wpSetItem,wpSetAttr,wpAttr,initOf,methN,posOf,sizesL,kindsL,frees,putF,getN,zA,zB,zC,zD,zE,zF,zG,qA,qB,qC,qD,qE,qF,reduceCtorEq,↓reduceIte,qG,zH,zI,zJ,zK,zL,zM,zN,qH,qI,zO,zP,zQ,zR,qJ,zS,zT,Nat.reduceAdd,Nat.reduceLT,Int.reduceLT,Int.reduceLE,Int.reduceNeg,Int.reduceSub,Int.reduceMul,Int.reduceAdd,Int.reduceToNat,qO,qP,zU,zV,zW,zX,zY,zZ,aR1,aR2,aW1,aW2,aW3,aW4,aW5,aW6,aW7,aW8,aW9,aWa,aWb,qK,qL,qM,qN]
  have e4 : ofBe (sl D a 1) = b.toNat := by
    unfold sl ofBe
    rw [List.drop_eq_getElem_cons hlt]
    have : D[a] = b := by
      have := hb; rw [List.getElem?_eq_getElem hlt] at this; exact Option.some.inj this
    simp [this]
  have e5 : (1 * 2 ^ (6 : Nat) - 1 : Int).toNat = 2 ^ 6 - 1 := by decide
  rw [e4, e5, Int.toNat_natCast, Nat.and_two_pow_sub_one_eq_mod, Nat.mod_eq_of_lt (by first | exact mm hm | exact m1 hm | decide | (first | lia | omega))]
  refine ⟨.inl (by decide), by decide, by (first | lia | omega), ?_⟩
  refine q _ _ (Fr.app _ _) ?_
  rw [get_last]; rfl
/- ==== the reader ==== -/
noncomputable def RdAt (h : H) (k : Nat) (D : List UInt8) (a : Nat) : Prop := h[k]? = some (.inst .reader [(.data, .bytes D), (.at_, .int a)])
/-- what the reader has left -/
noncomputable def RdS (h : H) (k : Nat) (D r : List UInt8) : Prop := ∃ p, D = p ++ r ∧ RdAt h k D p.length
theorem c_reader_init (bs : Base w B) (tb : Tabs B) {D : List UInt8} {k m : Nat} {h : H} {Q : K1} (e : h[k]? = some (.inst .reader [])) (hm : 1 ≤ m) (q : ∀ h', Fr [k] h h' → RdAt h' k D 0 → Q .none h') : G w B m 124 [.obj k, .bytes D] h Q := by
  refine fn_go bs tb (f_Reader_init _) (by first | exact mm hm | exact m1 hm | decide | (first | lia | omega)) [some (.obj k), some (.bytes D)] rfl rfl ?_
  have hk := lt_of e
  have e2 : ∀ o, (h.set k o)[k]? = some o := fun o => get_set hk
  simp only [b_Reader_init, wpSs,↓xB,↓vA,↓vC,↓vE,↓vF,↓wF,wpEs,wpOr,wpAnd,↓tA,↓tD,↓tE,wpIt,wpBin,cmpV,eqO,eqV,inV,seqOf,wpIdx,wpSlc,wpBytes,wpLen,wpIndex,wpSetItem,wpSetAttr,wpAttr,initOf,methN,posOf,sizesL,kindsL,frees,putF,getN,zA,zB,zC,zD,zE,zF,zG,qA,qB,qC,qD,qE,qF,reduceCtorEq,↓reduceIte,qG,zH,zI,zJ,zK,zL,zM,zN,qH,qI,zO,zP,zQ,zR,qJ,zS,zT,Nat.reduceAdd,Nat.reduceLT,Int.reduceLT,Int.reduceLE,Int.reduceNeg,Int.reduceSub,Int.reduceMul,Int.reduceAdd,Int.reduceToNat,qO,qP,zU,zV,zW,zX,zY,zZ,aR1,aR2,aW1,aW2,aW3,aW4,aW5,aW6,aW7,aW8,aW9,aWa,aWb,qK,qL,qM,qN, e, e2]
  rw [List.set_set]
  exact q _ ((Fr.refl h).setIn (by simp) _) (e2 _)
theorem c_left (bs : Base w B) (tb : Tabs B) {D r : List UInt8} {k m : Nat} {h : H} {Q : K1} (e : RdS h k D r) (hm : 1 ≤ m) (q : Q (.int r.length) h) : G w B m 131 [.obj k] h Q := by
  refine fn_go bs tb (f_Reader_left _) (by first | exact mm hm | exact m1 hm | decide | (first | lia | omega)) [some (.obj k)] rfl rfl ?_
  obtain ⟨p, rfl, e⟩ := e
  unfold RdAt at e
  simp only [b_Reader_left, wpSs,↓xG,↓vC,↓vF,↓vH,↓vU,↓wF,wpEs,wpOr,wpAnd,↓tD,↓tE,wpIt,wpBin,cmpV,eqO,eqV,inV,seqOf,wpIdx,wpSlc,wpBytes,wpLen,wpIndex,wpSetItem,wpSetAttr,wpAttr,initOf,methN,posOf,sizesL,kindsL,frees,putF,getN,zA,zB,zC,zD,zE,zF,zG,qA,qB,qC,qD,qE,qF,reduceCtorEq,↓reduceIte,qG,zH,zI,zJ,zK,zL,zM,zN,qH,qI,zO,zP,zQ,zR,qJ,zS,zT,Nat.reduceAdd,Nat.reduceLT,Int.reduceLT,Int.reduceLE,Int.reduceNeg,Int.reduceSub,Int.reduceMul,Int.reduceAdd,Int.reduceToNat,qO,qP,zU,zV,zW,zX,zY,zZ,aR1,aR2,aW1,aW2,aW3,aW4,aW5,aW6,aW7,aW8,aW9,aWa,aWb,qK,qL,qM,qN, e]
  have : ((p ++ r).length : Int) - (p.length : Int) = (r.length : Int) := by rw [List.length_append]; (first | lia | omega)
  rw [this]
  exact q
theorem sl_mid (p x r : List UInt8) : sl (p ++ (x ++ r)) p.length x.length = x := by unfold sl; simp
theorem c_take (bs : Base w B) (tb : Tabs B) {D x r : List UInt8} {k m many : Nat} {h : H} {Q : K1} (e : RdS h k D (x ++ r)) (hx : x.length = many) (hm : 2 ≤ m) (q : ∀ h', Fr [k] h h' → RdS h' k D r → Q (.bytes x) h') : G w B m 138 [.obj k, .int many] h Q := by
  subst hx
  refine fn_go bs tb (f_Reader_take _) (by first | exact mm hm | exact m1 hm | decide | (first | lia | omega)) [some (.obj k), some (.int x.length)] rfl rfl ?_
  have e0 := e
  obtain ⟨p, rfl, e⟩ := e
  unfold RdAt at e
  have hk := lt_of e
  have e2 : ∀ o, (h.set k o)[k]? = some o := fun o => get_set hk
  simp only [b_Reader_take, wpSs,↓xC,↓xD,↓xG,↓xJ,↓vC,↓vE,↓vF,↓vH,↓vM,↓vO,↓vZ,↓wF,↓wJ,wpEs,wpOr,wpAnd,↓tD,↓tE,wpIt,wpBin,cmpV,eqO,eqV,inV,seqOf,wpIdx,wpSlc,wpBytes,wpLen,wpIndex,wpSetItem,wpSetAttr,wpAttr,initOf,methN,posOf,sizesL,kindsL,frees,putF,getN,zA,zB,zC,zD,zE,zF,zG,qA,qB,qC,qD,qE,qF,reduceCtorEq,↓reduceIte,qG,zH,zI,zJ,zK,zL,zM,zN,qH,qI,zO,zP,zQ,zR,qJ,zS,zT,Nat.reduceAdd,Nat.reduceLT,Int.reduceLT,Int.reduceLE,Int.reduceNeg,Int.reduceSub,Int.reduceMul,Int.reduceAdd,Int.reduceToNat,qO,qP,zU,zV,zW,zX,zY,zZ,aR1,aR2,aW1,aW2,aW3,aW4,aW5,aW6,aW7,aW8,aW9,aWa,aWb,qK,qL,qM,qN, e]
  refine c_left bs tb e0 (by first | exact mm hm | exact m1 hm | decide | (first | lia | omega)) ?_
  have h0 : decide ((x.length : Int) > ((x ++ r).length : Int)) = false := by simp; (first | lia | omega)
  simp only [h0, wpSs,↓xC,↓xD,↓xG,↓xJ,↓vC,↓vE,↓vF,↓vH,↓vM,↓vO,↓vZ,↓wF,↓wJ,wpEs,wpOr,wpAnd,↓tD,↓tE,wpIt,wpBin,cmpV,eqO,eqV,inV,seqOf,wpIdx,wpSlc,wpBytes,wpLen,wpIndex,wpSetItem,wpSetAttr,wpAttr,initOf,methN,posOf,sizesL,kindsL,frees,putF,getN,zA,zB,zC,zD,zE,zF,zG,qA,qB,qC,qD,qE,qF,reduceCtorEq,↓reduceIte,qG,zH,zI,zJ,zK,zL,zM,zN,qH,qI,zO,zP,zQ,zR,qJ,zS,zT,Nat.reduceAdd,Nat.reduceLT,Int.reduceLT,Int.reduceLE,Int.reduceNeg,Int.reduceSub,Int.reduceMul,Int.reduceAdd,Int.reduceToNat,qO,qP,zU,zV,zW,zX,zY,zZ,aR1,aR2,aW1,aW2,aW3,aW4,aW5,aW6,aW7,aW8,aW9,aWa,aWb,qK,qL,qM,qN]
  simp only [tl_Reader_take_1, wpSs,↓xC,↓xD,↓xG,↓xJ,↓vC,↓vE,↓vF,↓vH,↓vM,↓vO,↓vZ,↓wF,↓wJ,wpEs,wpOr,wpAnd,↓tD,↓tE,wpIt,wpBin,cmpV,eqO,eqV,inV,seqOf,wpIdx,wpSlc,wpBytes,wpLen,wpIndex,wpSetItem,wpSetAttr,wpAttr,initOf,methN,posOf,sizesL,kindsL,frees,putF,getN,zA,zB,zC,zD,zE,zF,zG,qA,qB,qC,qD,qE,qF,reduceCtorEq,↓reduceIte,qG,zH,zI,zJ,zK,zL,zM,zN,qH,qI,zO,zP,zQ,zR,qJ,zS,zT,Nat.reduceAdd,Nat.reduceLT,Int.reduceLT,Int.reduceLE,Int.reduceNeg,Int.reduceSub,Int.reduceMul,Int.reduceAdd,Int.reduceToNat,qO,qP,zU,zV,zW,zX,zY,zZ,aR1,aR2,aW1,aW2,aW3,aW4,aW5,aW6,aW7,aW8,aW9,aWa,aWb,qK,qL,qM,qN, e, e2]
  have e3 : ((p.length : Int) + (x.length : Int) - (x.length : Int)) = ((p.length : Nat) : Int) := by (first | lia | omega)
  have e4 : ((p.length : Int) + (x.length : Int)) = ((p.length + x.length : Nat) : Int) := by (first | lia | omega)
  rw [e3, e4, cut_nat (by first | exact mm hm | exact m1 hm | decide | (first | lia | omega)) (by simp), Nat.add_sub_cancel_left, sl_mid]
  refine q _ ((Fr.refl h).setIn (by simp) _) ⟨p ++ x, by simp, ?_⟩
  unfold RdAt
  rw [e2, List.length_append]
theorem c_whole (bs : Base w B) (tb : Tabs B) {D x r : List UInt8} {k m many : Nat} {h : H} {Q : K1} (e : RdS h k D (x ++ r)) (hx : x.length = many) (hm : 2 ≤ m) (q : ∀ h', Fr [k] h h' → RdS h' k D r → Q (.int (ofBe x)) h') : G w B m 152 [.obj k, .int many] h Q := by
  subst hx
  refine fn_go bs tb (f_Reader_whole _) (by first | exact mm hm | exact m1 hm | decide | (first | lia | omega)) [some (.obj k), some (.int x.length), none] rfl rfl ?_
  obtain ⟨p, rfl, e⟩ := e
  unfold RdAt at e
  have hk := lt_of e
  have e2 : ∀ o, (h.set k o)[k]? = some o := fun o => get_set hk
  simp only [b_Reader_whole, wpSs,↓xB,↓xC,↓xG,↓vC,↓vF,↓vS,↓wF,wpEs,wpOr,wpAnd,↓tA,↓tD,↓tE,wpIt,wpBin,cmpV,eqO,eqV,inV,seqOf,wpIdx,wpSlc,wpBytes,wpLen,wpIndex,wpSetItem,wpSetAttr,wpAttr,initOf,methN,posOf,sizesL,kindsL,frees,putF,getN,zA,zB,zC,zD,zE,zF,zG,qA,qB,qC,qD,qE,qF,reduceCtorEq,↓reduceIte,qG,zH,zI,zJ,zK,zL,zM,zN,qH,qI,zO,zP,zQ,zR,qJ,zS,zT,Nat.reduceAdd,Nat.reduceLT,Int.reduceLT,Int.reduceLE,Int.reduceNeg,Int.reduceSub,Int.reduceMul,Int.reduceAdd,Int.reduceToNat,qO,qP,zU,zV,zW,zX,zY,zZ,aR1,aR2,aW1,aW2,aW3,aW4,aW5,aW6,aW7,aW8,aW9,aWa,aWb,qK,qL,qM,qN, e]
  refine c_get_whole bs tb (d := p ++ (x ++ r)) (a := p.length) (size := x.length) (by simp) (by first | exact mm hm | exact m1 hm | decide | (first | lia | omega)) ?_
  simp only [tl_Reader_whole_1, wpSs,↓xB,↓xC,↓xG,↓vC,↓vF,↓vS,↓wF,wpEs,wpOr,wpAnd,↓tA,↓tD,↓tE,wpIt,wpBin,cmpV,eqO,eqV,inV,seqOf,wpIdx,wpSlc,wpBytes,wpLen,wpIndex,wpSetItem,wpSetAttr,wpAttr,initOf,methN,posOf,sizesL,kindsL,frees,putF,getN,zA,zB,zC,zD,zE,zF,zG,qA,qB,qC,qD,qE,qF,reduceCtorEq,↓reduceIte,qG,zH,zI,zJ,zK,zL,zM,zN,qH,qI,zO,zP,zQ,zR,qJ,zS,zT,Nat.reduceAdd,Nat.reduceLT,Int.reduceLT,Int.reduceLE,Int.reduceNeg,Int.reduceSub,Int.reduceMul,Int.reduceAdd,Int.reduceToNat,qO,qP,zU,zV,zW,zX,zY,zZ,aR1,aR2,aW1,aW2,aW3,aW4,aW5,aW6,aW7,aW8,aW9,aWa,aWb,qK,qL,qM,qN, e]
  have e4 : ((p.length : Int) + (x.length : Int)) = ((p.length + x.length : Nat) : Int) := by (first | lia | omega)
  rw [sl_mid, e4]
  refine q _ ((Fr.refl h).setIn (by simp) _) ⟨p ++ x, by simp, ?_⟩
  unfold RdAt
  rw [e2, List.length_append]
theorem c_varint (bs : Base w B) (tb : Tabs B) {D r : List UInt8} {b : UInt8} {k m : Nat} {h : H} {Q : K1} (e : RdS h k D (b :: r)) (hb : b.toNat < 64) (hm : 3 ≤ m) (q : ∀ h', Fr [k] h h' → RdS h' k D r → Q (.int b.toNat) h') : G w B m 159 [.obj k] h Q := by
  refine fn_go bs tb (f_Reader_varint _) (by first | exact mm hm | exact m1 hm | decide | (first | lia | omega)) [some (.obj k), none] rfl rfl ?_
  obtain ⟨p, rfl, e⟩ := e
  unfold RdAt at e
  simp only [b_Reader_varint, wpSs,↓xB,↓xG,↓vC,↓vF,↓vP,↓vS,↓wF,wpEs,wpOr,wpAnd,↓tB,↓tD,↓tE,↓yA,↓yB,wpIt,wpBin,cmpV,eqO,eqV,inV,seqOf,wpIdx,wpSlc,wpBytes,wpLen,wpIndex,wpSetItem,wpSetAttr,wpAttr,initOf,methN,posOf,sizesL,kindsL,frees,putF,getN,zA,zB,zC,zD,zE,zF,zG,qA,qB,qC,qD,qE,qF,reduceCtorEq,↓reduceIte,qG,zH,zI,zJ,zK,zL,zM,zN,qH,qI,zO,zP,zQ,zR,qJ,zS,zT,Nat.reduceAdd,Nat.reduceLT,Int.reduceLT,Int.reduceLE,Int.reduceNeg,Int.reduceSub,Int.reduceMul,Int.reduceAdd,Int.reduceToNat,qO,qP,zU,zV,zW,zX,zY,zZ,aR1,aR2,aW1,aW2,aW3,aW4,aW5,aW6,aW7,aW8,aW9,aWa,aWb,qK,qL,qM,qN, e]
  refine c_get_varint bs tb (D := p ++ b :: r) (a := p.length) (b := b) (by simp) hb (by first | exact mm hm | exact m1 hm | decide | (first | lia | omega)) fun h' k' fr e' => ?_
  have e1 := fr.2 k _ e (by simp)
  have hk := lt_of e1
  simp only [tl_Reader_varint_1, wpSs,↓xB,↓xG,↓vC,↓vF,↓vP,↓vS,↓wF,wpEs,wpOr,wpAnd,↓tB,↓tD,↓tE,↓yA,↓yB,wpIt,wpBin,cmpV,eqO,eqV,inV,seqOf,wpIdx,wpSlc,wpBytes,wpLen,wpIndex,wpSetItem,wpSetAttr,wpAttr,initOf,methN,posOf,sizesL,kindsL,frees,putF,getN,zA,zB,zC,zD,zE,zF,zG,qA,qB,qC,qD,qE,qF,reduceCtorEq,↓reduceIte,qG,zH,zI,zJ,zK,zL,zM,zN,qH,qI,zO,zP,zQ,zR,qJ,zS,zT,Nat.reduceAdd,Nat.reduceLT,Int.reduceLT,Int.reduceLE,Int.reduceNeg,Int.reduceSub,Int.reduceMul,Int.reduceAdd,Int.reduceToNat,qO,qP,zU,zV,zW,zX,zY,zZ,aR1,aR2,aW1,aW2,aW3,aW4,aW5,aW6,aW7,aW8,aW9,aWa,aWb,qK,qL,qM,qN, e', e1]
  refine q _ ((fr.mono (by simp)).setIn (by simp) _) ⟨p ++ [b], by simp, ?_⟩
  unfold RdAt
  rw [get_set hk, List.length_append]
  rfl
end
end Mine
end
section
set_option maxRecDepth 100000
set_option maxHeartbeats 2000000
set_option backward.match.sparseCases false
set_option linter.all false
namespace Mine
open PySem PySem.W
theorem octetsOf_one {n : Nat} (hn : n < 256) : octetsOf [.int n] = some [n.toUInt8] := by
  unfold octetsOf
  rw [if_pos (by first | exact mm hm | exact m1 hm | decide | (first | lia | omega))]
  simp [octetsOf]
theorem octetsOf_map (b : List UInt8) : octetsOf (b.map fun u => .int u.toNat) = some b := by
  induction b with
  | nil => rfl
  | cons u b ih =>
    rw [List.map_cons]
    unfold octetsOf
    rw [if_pos (by have := u.toNat_lt; (first | lia | omega)), ih]
    simp
theorem Qb {Q : K1} {b b' : List UInt8} {h : H} (q : Q (.bytes b) h) (e : b' = b) : Q (.bytes b') h := e ▸ q
theorem Qi {Q : K1} {b b' : Int} {h : H} (q : Q (.int b) h) (e : b' = b) : Q (.int b') h := e ▸ q
noncomputable def ids (d s : List UInt8) : List UInt8 := d.length.toUInt8 :: (d ++ s.length.toUInt8 :: s)
noncomputable def tagOf (key : List UInt8) (number : Nat) (head body : List UInt8) : List UInt8 := beN 16 (mix (mix (number + 1) key) (beN 4 head.length ++ head ++ body))
theorem tagOf_length (key : List UInt8) (number : Nat) (head body : List UInt8) : (tagOf key number head body).length = 16 := beN_length _ _
section
variable {w : World} {B : Heap}
theorem c_put_ids (bs : Base w B) (tb : Tabs B) {d s : List UInt8} {m : Nat} {h : H} {Q : K1} (hd : d.length < 256) (hs : s.length < 256) (hm : 1 ≤ m) (q : ∀ h', Fr [] h h' → Q (.bytes (ids d s)) h') : G w B m 195 [.bytes d, .bytes s] h Q := by
  refine fn_go bs tb (f_put_ids _) hm [some (.bytes d), some (.bytes s)] rfl rfl ?_
  simp only [b_put_ids, wpSs,↓xG,↓vE,↓vF,↓vH,↓vQ,↓vU,↓vV,wpEs,wpOr,wpAnd,↓tD,wpIt,wpBin,cmpV,eqO,eqV,inV,seqOf,wpIdx,wpSlc,wpBytes,wpLen,wpIndex,wpSetItem,wpSetAttr,wpAttr,initOf,methN,posOf,sizesL,kindsL,frees,putF,getN,zA,zB,zC,zD,zE,zF,zG,qA,qB,qC,qD,qE,qF,reduceCtorEq,↓reduceIte,qG,zH,zI,zJ,zK,zL,zM,zN,qH,qI,zO,zP,zQ,zR,qJ,zS,zT,Nat.reduceAdd,Nat.reduceLT,Int.reduceLT,Int.reduceLE,Int.reduceNeg,Int.reduceSub,Int.reduceMul,Int.reduceAdd,Int.reduceToNat,qO,qP,zU,zV,zW,zX,zY,zZ,aR1,aR2,aW1,aW2,aW3,aW4,aW5,aW6,aW7,aW8,aW9,aWa,aWb,qK,qL,qM,qN, octetsOf_one hd, octetsOf_one hs]
  refine ⟨(by first | omega | decide | (simp; done) | (simp; omega)), (by first | omega | decide | (simp; done) | (simp; omega)), (by first | omega | decide | (simp; done) | (simp; omega)), (by first | omega | decide | (simp; done) | (simp; omega)), (by first | omega | decide | (simp; done) | (simp; omega)), ?_⟩
  exact Qb (b := ids d s) (q _ (((Fr.refl h).push _).push _)) (by simp [ids])
theorem c_long_first_i (bs : Base w B) (tb : Tabs B) {n m : Nat} {h : H} {Q : K1} (hm : 1 ≤ m) (q : Q (.int ((192 + n : Nat) : Int)) h) : G w B m 202 [.str .initial, .int n] h Q := by
  refine fn_go bs tb (f_long_first _) hm [some (.str .initial), some (.int n)] rfl rfl ?_
  simp only [b_long_first, wpSs,↓xG,↓vC,↓vD,↓vF,↓vG,↓vH,↓wC,wpEs,wpOr,wpAnd,↓tD,wpIt,wpBin,cmpV,eqO,eqV,inV,seqOf,wpIdx,wpSlc,wpBytes,wpLen,wpIndex,wpSetItem,wpSetAttr,wpAttr,initOf,methN,posOf,sizesL,kindsL,frees,putF,getN,zA,zB,zC,zD,zE,zF,zG,qA,qB,qC,qD,qE,qF,reduceCtorEq,↓reduceIte,qG,zH,zI,zJ,zK,zL,zM,zN,qH,qI,zO,zP,zQ,zR,qJ,zS,zT,Nat.reduceAdd,Nat.reduceLT,Int.reduceLT,Int.reduceLE,Int.reduceNeg,Int.reduceSub,Int.reduceMul,Int.reduceAdd,Int.reduceToNat,qO,qP,zU,zV,zW,zX,zY,zZ,aR1,aR2,aW1,aW2,aW3,aW4,aW5,aW6,aW7,aW8,aW9,aWa,aWb,qK,qL,qM,qN]
  refine ⟨.inl (by decide), ?_⟩
  have e : ((192 : Int) + 16 * ((0 : Nat) : Int) + (n : Int)) = ((192 + n : Nat) : Int) := by (first | lia | omega)
  rw [e]; exact q
theorem c_long_first_r (bs : Base w B) (tb : Tabs B) {n m : Nat} {h : H} {Q : K1} (hm : 1 ≤ m) (q : Q (.int ((240 + n : Nat) : Int)) h) : G w B m 202 [.str .retry, .int n] h Q := by
  refine fn_go bs tb (f_long_first _) hm [some (.str .retry), some (.int n)] rfl rfl ?_
  simp only [b_long_first, wpSs,↓xG,↓vC,↓vD,↓vF,↓vG,↓vH,↓wC,wpEs,wpOr,wpAnd,↓tD,wpIt,wpBin,cmpV,eqO,eqV,inV,seqOf,wpIdx,wpSlc,wpBytes,wpLen,wpIndex,wpSetItem,wpSetAttr,wpAttr,initOf,methN,posOf,sizesL,kindsL,frees,putF,getN,zA,zB,zC,zD,zE,zF,zG,qA,qB,qC,qD,qE,qF,reduceCtorEq,↓reduceIte,qG,zH,zI,zJ,zK,zL,zM,zN,qH,qI,zO,zP,zQ,zR,qJ,zS,zT,Nat.reduceAdd,Nat.reduceLT,Int.reduceLT,Int.reduceLE,Int.reduceNeg,Int.reduceSub,Int.reduceMul,Int.reduceAdd,Int.reduceToNat,qO,qP,zU,zV,zW,zX,zY,zZ,aR1,aR2,aW1,aW2,aW3,aW4,aW5,aW6,aW7,aW8,aW9,aWa,aWb,qK,qL,qM,qN]
  refine ⟨.inl (by decide), ?_⟩
  have e : ((192 : Int) + 16 * ((3 : Nat) : Int) + (n : Int)) = ((240 + n : Nat) : Int) := by (first | lia | omega)
  rw [e]; exact q
theorem c_tag_of (bs : Base w B) (tb : Tabs B) {key head body : List UInt8} {n m : Nat} {h : H} {Q : K1} (hh : head.length ≤ 1000) (hb : body.length ≤ 1000) (hm : 2 ≤ m) (q : ∀ h', Fr [] h h' → Q (.bytes (tagOf key n head body)) h') :
    G w B m 298 [.bytes key, .int n, .bytes head, .bytes body] h Q := by
  refine fn_go bs tb (f_tag_of _) (by first | exact mm hm | exact m1 hm | decide | (first | lia | omega)) [some (.bytes key), some (.int n), some (.bytes head), some (.bytes body), none] rfl rfl ?_
  simp only [b_tag_of, wpSs,↓xB,↓xG,↓vC,↓vE,↓vF,↓vG,↓vH,↓vS,↓vU,wpEs,wpOr,wpAnd,↓tA,↓tD,wpIt,wpBin,cmpV,eqO,eqV,inV,seqOf,wpIdx,wpSlc,wpBytes,wpLen,wpIndex,wpSetItem,wpSetAttr,wpAttr,initOf,methN,posOf,sizesL,kindsL,frees,putF,getN,zA,zB,zC,zD,zE,zF,zG,qA,qB,qC,qD,qE,qF,reduceCtorEq,↓reduceIte,qG,zH,zI,zJ,zK,zL,zM,zN,qH,qI,zO,zP,zQ,zR,qJ,zS,zT,Nat.reduceAdd,Nat.reduceLT,Int.reduceLT,Int.reduceLE,Int.reduceNeg,Int.reduceSub,Int.reduceMul,Int.reduceAdd,Int.reduceToNat,qO,qP,zU,zV,zW,zX,zY,zZ,aR1,aR2,aW1,aW2,aW3,aW4,aW5,aW6,aW7,aW8,aW9,aWa,aWb,qK,qL,qM,qN]
  have e1 : ((n : Int) + 1) = ((n + 1 : Nat) : Int) := rfl
  rw [e1]
  refine c_mixed bs tb (by first | exact mm hm | exact m1 hm | decide | (first | lia | omega)) ?_
  refine c_put_whole bs tb (n := head.length) (size := 4) (by first | exact mm hm | exact m1 hm | decide | (first | lia | omega)) (by first | exact mm hm | exact m1 hm | decide | (first | lia | omega)) (by first | exact mm hm | exact m1 hm | decide | (first | lia | omega)) fun h' fr => ?_
  simp only [wpSs,↓xB,↓xG,↓vC,↓vE,↓vF,↓vG,↓vH,↓vS,↓vU,wpEs,wpOr,wpAnd,↓tA,↓tD,wpIt,wpBin,cmpV,eqO,eqV,inV,seqOf,wpIdx,wpSlc,wpBytes,wpLen,wpIndex,wpSetItem,wpSetAttr,wpAttr,initOf,methN,posOf,sizesL,kindsL,frees,putF,getN,zA,zB,zC,zD,zE,zF,zG,qA,qB,qC,qD,qE,qF,reduceCtorEq,↓reduceIte,qG,zH,zI,zJ,zK,zL,zM,zN,qH,qI,zO,zP,zQ,zR,qJ,zS,zT,Nat.reduceAdd,Nat.reduceLT,Int.reduceLT,Int.reduceLE,Int.reduceNeg,Int.reduceSub,Int.reduceMul,Int.reduceAdd,Int.reduceToNat,qO,qP,zU,zV,zW,zX,zY,zZ,aR1,aR2,aW1,aW2,aW3,aW4,aW5,aW6,aW7,aW8,aW9,aWa,aWb,qK,qL,qM,qN, beN_length]
  refine ⟨by (first | lia | omega), by rw [List.length_append, beN_length]; (first | lia | omega), ?_⟩
  refine c_mixed bs tb (by first | exact mm hm | exact m1 hm | decide | (first | lia | omega)) ?_
  simp only [tl_tag_of_1, wpSs,↓xB,↓xG,↓vC,↓vE,↓vF,↓vG,↓vH,↓vS,↓vU,wpEs,wpOr,wpAnd,↓tA,↓tD,wpIt,wpBin,cmpV,eqO,eqV,inV,seqOf,wpIdx,wpSlc,wpBytes,wpLen,wpIndex,wpSetItem,wpSetAttr,wpAttr,initOf,methN,posOf,sizesL,kindsL,frees,putF,getN,zA,zB,zC,zD,zE,zF,zG,qA,qB,qC,qD,qE,qF,reduceCtorEq,↓reduceIte,qG,zH,zI,zJ,zK,zL,zM,zN,qH,qI,zO,zP,zQ,zR,qJ,zS,zT,Nat.reduceAdd,Nat.reduceLT,Int.reduceLT,Int.reduceLE,Int.reduceNeg,Int.reduceSub,Int.reduceMul,Int.reduceAdd,Int.reduceToNat,qO,qP,zU,zV,zW,zX,zY,zZ,aR1,aR2,aW1,aW2,aW3,aW4,aW5,aW6,aW7,aW8,aW9,aWa,aWb,qK,qL,qM,qN]
  refine c_put_whole bs tb (size := 16) ?_ (by first | exact mm hm | exact m1 hm | decide | (first | lia | omega)) (by first | exact mm hm | exact m1 hm | decide | (first | lia | omega)) fun h2 fr2 => ?_
  · have := mix_lt (mix (n + 1) key) (beN 4 head.length ++ head ++ body)
    have e : (256 : Nat) ^ 16 = 340282366920938463463374607431768211456 := by decide
    rw [e]
    unfold M127 at this
    (first | lia | omega)
  · exact q _ (fr.trans fr2)
theorem turn_step {Γ : Nat → List V → H → K1 → Prop} {a b c : Option V} {st k : Nat} {u : UInt8} {bs : List UInt8} {h : H} {Q : K2} (e : h[k]? = some (.list (bs.map fun u => .int u.toNat))) (hb : bs.length < 1000)
    (q : ∀ (st' : Nat) (c' : UInt8), Q .next [a, b, c, some (.int st'), some (.obj k), some (.int u.toNat)] (h.set k (.list ((bs ++ [c']).map fun u => .int u.toNat)))) :
    wpSs Γ lb_turned_octets_0 [a, b, c, some (.int st), some (.obj k), some (.int u.toNat)] h Q := by
  simp only [lb_turned_octets_0, wpSs,↓xA,↓xB,↓xF,↓xG,↓vC,↓vE,↓vF,↓vG,↓vH,↓vP,↓vQ,↓vS,↓vV,↓wA,wpEs,wpOr,wpAnd,↓tA,↓tB,↓tC,↓tD,↓yA,↓yB,wpIt,wpBin,cmpV,eqO,eqV,inV,seqOf,wpIdx,wpSlc,wpBytes,wpLen,wpIndex,wpSetItem,wpSetAttr,wpAttr,initOf,methN,posOf,sizesL,kindsL,frees,putF,getN,zA,zB,zC,zD,zE,zF,zG,qA,qB,qC,qD,qE,qF,reduceCtorEq,↓reduceIte,qG,zH,zI,zJ,zK,zL,zM,zN,qH,qI,zO,zP,zQ,zR,qJ,zS,zT,Nat.reduceAdd,Nat.reduceLT,Int.reduceLT,Int.reduceLE,Int.reduceNeg,Int.reduceSub,Int.reduceMul,Int.reduceAdd,Int.reduceToNat,qO,qP,zU,zV,zW,zX,zY,zZ,aR1,aR2,aW1,aW2,aW3,aW4,aW5,aW6,aW7,aW8,aW9,aWa,aWb,qK,qL,qM,qN, e]
  have e1 : ((st : Int) * 6364136223846793005 + 1442695040888963407) % 170141183460469231731687303715884105727 = (((st * FAC + 1442695040888963407) % M127 : Nat) : Int) := by
    rw [Int.natCast_emod, Int.natCast_add, Int.natCast_mul]; rfl
  rw [e1]
  generalize (st * FAC + 1442695040888963407) % M127 = s2
  have e2 : ((s2 : Int) / 65536 % 256).toNat = s2 / 65536 % 256 := by (first | lia | omega)
  rw [e2, Int.toNat_natCast]
  have hu := u.toNat_lt
  have hx : u.toNat ^^^ s2 / 65536 % 256 < 2 ^ 8 := Nat.xor_lt_two_pow (by first | exact mm hm | exact m1 hm | decide | (first | lia | omega)) (by first | exact mm hm | exact m1 hm | decide | (first | lia | omega))
  refine ⟨.inr (by decide), ⟨by (first | lia | omega), by (first | lia | omega)⟩, by simpa using hb, ?_⟩
  have := q s2 (u.toNat ^^^ s2 / 65536 % 256).toUInt8
  rw [List.map_append, List.map_cons, List.map_nil, toU8, Nat.mod_eq_of_lt hx] at this
  exact this
theorem turn_loop {Γ : Nat → List V → H → K1 → Prop} {a b c : Option V} {k : Nat} : ∀ (d : List UInt8) (st : Nat) (x : Option V) (bs : List UInt8) (h : H) (Q : K2), bs.length + d.length ≤ 1000 → h[k]? = some (.list (bs.map fun u => .int u.toNat)) →
      (∀ (st' : Nat) (x' : Option V) (bs' : List UInt8), bs'.length = bs.length + d.length → Q .next [a, b, c, some (.int st'), some (.obj k), x'] (h.set k (.list (bs'.map fun u => .int u.toNat)))) →
      wpFor (fun l2 h2 Q2 => wpSs Γ lb_turned_octets_0 l2 h2 Q2) 5 (fun _ => True) (d.map fun u => V.int u.toNat) [a, b, c, some (.int st), some (.obj k), x] h Q
  | [], st, x, bs, h, Q, _, e, q => by
    have := q st x bs (by simp)
    have e2 : h.set k (.list (bs.map fun u => .int u.toNat)) = h := by
      obtain ⟨hk, e'⟩ := List.getElem?_eq_some_iff.mp e
      rw [← e']
      exact List.set_getElem_self hk
    rw [e2] at this
    exact this
  | u :: d, st, x, bs, h, Q, hl, e, q => by
    have hk := lt_of e
    refine ⟨by simp, turn_step e (by simp at hl; (first | lia | omega)) fun st' c' => ⟨trivial, ?_⟩⟩
    refine turn_loop d st' _ (bs ++ [c']) _ Q (by simp at hl ⊢; (first | lia | omega)) (get_set hk) fun st2 x2 bs2 hb2 => ?_
    rw [List.set_set]
    exact q st2 x2 bs2 (by simp at hb2 ⊢; (first | lia | omega))
theorem c_turned_octets (bs : Base w B) (tb : Tabs B) {key d : List UInt8} {n m : Nat} {h : H} {Q : K1} (hd : d.length ≤ 1000) (hm : 2 ≤ m) (q : ∀ h' (b : List UInt8), Fr [] h h' → b.length = d.length → Q (.bytes b) h') :
    G w B m 291 [.bytes key, .int n, .bytes d] h Q := by
  refine fn_go bs tb (f_turned_octets _) (by first | exact mm hm | exact m1 hm | decide | (first | lia | omega)) [some (.bytes key), some (.int n), some (.bytes d), none, none, none] rfl rfl ?_
  simp only [b_turned_octets, wpSs,↓xA,↓xB,↓xF,↓xG,↓vC,↓vE,↓vF,↓vG,↓vH,↓vP,↓vQ,↓vS,↓vV,↓wA,wpEs,wpOr,wpAnd,↓tA,↓tB,↓tC,↓tD,↓yA,↓yB,wpIt,wpBin,cmpV,eqO,eqV,inV,seqOf,wpIdx,wpSlc,wpBytes,wpLen,wpIndex,wpSetItem,wpSetAttr,wpAttr,initOf,methN,posOf,sizesL,kindsL,frees,putF,getN,zA,zB,zC,zD,zE,zF,zG,qA,qB,qC,qD,qE,qF,reduceCtorEq,↓reduceIte,qG,zH,zI,zJ,zK,zL,zM,zN,qH,qI,zO,zP,zQ,zR,qJ,zS,zT,Nat.reduceAdd,Nat.reduceLT,Int.reduceLT,Int.reduceLE,Int.reduceNeg,Int.reduceSub,Int.reduceMul,Int.reduceAdd,Int.reduceToNat,qO,qP,zU,zV,zW,zX,zY,zZ,aR1,aR2,aW1,aW2,aW3,aW4,aW5,aW6,aW7,aW8,aW9,aWa,aWb,qK,qL,qM,qN]
  have e1 : ((n : Int) + 1) = ((n + 1 : Nat) : Int) := rfl
  rw [e1]
  refine c_mixed bs tb (by first | exact mm hm | exact m1 hm | decide | (first | lia | omega)) ?_
  refine c_mixed bs tb (by first | exact mm hm | exact m1 hm | decide | (first | lia | omega)) ?_
  simp only [tl_turned_octets_1, wpSs,↓xA,↓xB,↓xF,↓xG,↓vC,↓vE,↓vF,↓vG,↓vH,↓vP,↓vQ,↓vS,↓vV,↓wA,wpEs,wpOr,wpAnd,↓tA,↓tB,↓tC,↓tD,↓yA,↓yB,wpIt,wpBin,cmpV,eqO,eqV,inV,seqOf,wpIdx,wpSlc,wpBytes,wpLen,wpIndex,wpSetItem,wpSetAttr,wpAttr,initOf,methN,posOf,sizesL,kindsL,frees,putF,getN,zA,zB,zC,zD,zE,zF,zG,qA,qB,qC,qD,qE,qF,reduceCtorEq,↓reduceIte,qG,zH,zI,zJ,zK,zL,zM,zN,qH,qI,zO,zP,zQ,zR,qJ,zS,zT,Nat.reduceAdd,Nat.reduceLT,Int.reduceLT,Int.reduceLE,Int.reduceNeg,Int.reduceSub,Int.reduceMul,Int.reduceAdd,Int.reduceToNat,qO,qP,zU,zV,zW,zX,zY,zZ,aR1,aR2,aW1,aW2,aW3,aW4,aW5,aW6,aW7,aW8,aW9,aWa,aWb,qK,qL,qM,qN]
  refine turn_loop d _ none [] _ _ (by simpa using hd) (get_last2 _ _ _) fun st' x' b' hb' => ?_
  have hk : h.length < (h ++ [O.list []] ++ [O.tup [V.int ↑(mix (mix (n + 1) key) [98, 111, 100, 121]), V.obj h.length]]).length := (by first | omega | decide | (simp; done) | (simp; omega))
  simp only [tl_turned_octets_2, wpSs,↓xA,↓xB,↓xF,↓xG,↓vC,↓vE,↓vF,↓vG,↓vH,↓vP,↓vQ,↓vS,↓vV,↓wA,wpEs,wpOr,wpAnd,↓tA,↓tB,↓tC,↓tD,↓yA,↓yB,wpIt,wpBin,cmpV,eqO,eqV,inV,seqOf,wpIdx,wpSlc,wpBytes,wpLen,wpIndex,wpSetItem,wpSetAttr,wpAttr,initOf,methN,posOf,sizesL,kindsL,frees,putF,getN,zA,zB,zC,zD,zE,zF,zG,qA,qB,qC,qD,qE,qF,reduceCtorEq,↓reduceIte,qG,zH,zI,zJ,zK,zL,zM,zN,qH,qI,zO,zP,zQ,zR,qJ,zS,zT,Nat.reduceAdd,Nat.reduceLT,Int.reduceLT,Int.reduceLE,Int.reduceNeg,Int.reduceSub,Int.reduceMul,Int.reduceAdd,Int.reduceToNat,qO,qP,zU,zV,zW,zX,zY,zZ,aR1,aR2,aW1,aW2,aW3,aW4,aW5,aW6,aW7,aW8,aW9,aWa,aWb,qK,qL,qM,qN, get_set hk, octetsOf_map]
  exact ⟨by simp at hb'; (first | lia | omega), q _ b' ((((Fr.refl h).push _).push _).setNew (Nat.le_refl _) _) (by simpa using hb')⟩
theorem c_seal_payload (bs : Base w B) (tb : Tabs B) {key head d : List UInt8} {n m : Nat} {h : H} {Q : K1} (hh : head.length ≤ 1000) (hd : d.length ≤ 1000) (hm : 3 ≤ m) (q : ∀ h' (b : List UInt8), Fr [] h h' → b.length = d.length + 16 → Q (.bytes b) h') :
    G w B m 305 [.bytes key, .int n, .bytes head, .bytes d] h Q := by
  refine fn_go bs tb (f_seal_payload _) (by first | exact mm hm | exact m1 hm | decide | (first | lia | omega)) [some (.bytes key), some (.int n), some (.bytes head), some (.bytes d), none] rfl rfl ?_
  simp only [b_seal_payload, wpSs,↓xB,↓xG,↓vC,↓vE,↓vF,↓vH,↓vS,wpEs,wpOr,wpAnd,↓tA,↓tD,wpIt,wpBin,cmpV,eqO,eqV,inV,seqOf,wpIdx,wpSlc,wpBytes,wpLen,wpIndex,wpSetItem,wpSetAttr,wpAttr,initOf,methN,posOf,sizesL,kindsL,frees,putF,getN,zA,zB,zC,zD,zE,zF,zG,qA,qB,qC,qD,qE,qF,reduceCtorEq,↓reduceIte,qG,zH,zI,zJ,zK,zL,zM,zN,qH,qI,zO,zP,zQ,zR,qJ,zS,zT,Nat.reduceAdd,Nat.reduceLT,Int.reduceLT,Int.reduceLE,Int.reduceNeg,Int.reduceSub,Int.reduceMul,Int.reduceAdd,Int.reduceToNat,qO,qP,zU,zV,zW,zX,zY,zZ,aR1,aR2,aW1,aW2,aW3,aW4,aW5,aW6,aW7,aW8,aW9,aWa,aWb,qK,qL,qM,qN]
  refine c_turned_octets bs tb hd (by first | exact mm hm | exact m1 hm | decide | (first | lia | omega)) fun h1 b fr1 hb => ?_
  simp only [tl_seal_payload_1, wpSs,↓xB,↓xG,↓vC,↓vE,↓vF,↓vH,↓vS,wpEs,wpOr,wpAnd,↓tA,↓tD,wpIt,wpBin,cmpV,eqO,eqV,inV,seqOf,wpIdx,wpSlc,wpBytes,wpLen,wpIndex,wpSetItem,wpSetAttr,wpAttr,initOf,methN,posOf,sizesL,kindsL,frees,putF,getN,zA,zB,zC,zD,zE,zF,zG,qA,qB,qC,qD,qE,qF,reduceCtorEq,↓reduceIte,qG,zH,zI,zJ,zK,zL,zM,zN,qH,qI,zO,zP,zQ,zR,qJ,zS,zT,Nat.reduceAdd,Nat.reduceLT,Int.reduceLT,Int.reduceLE,Int.reduceNeg,Int.reduceSub,Int.reduceMul,Int.reduceAdd,Int.reduceToNat,qO,qP,zU,zV,zW,zX,zY,zZ,aR1,aR2,aW1,aW2,aW3,aW4,aW5,aW6,aW7,aW8,aW9,aWa,aWb,qK,qL,qM,qN]
  refine c_tag_of bs tb hh (by first | exact mm hm | exact m1 hm | decide | (first | lia | omega)) (by first | exact mm hm | exact m1 hm | decide | (first | lia | omega)) fun h2 fr2 => ?_
  simp only [wpSs,↓xB,↓xG,↓vC,↓vE,↓vF,↓vH,↓vS,wpEs,wpOr,wpAnd,↓tA,↓tD,wpIt,wpBin,cmpV,eqO,eqV,inV,seqOf,wpIdx,wpSlc,wpBytes,wpLen,wpIndex,wpSetItem,wpSetAttr,wpAttr,initOf,methN,posOf,sizesL,kindsL,frees,putF,getN,zA,zB,zC,zD,zE,zF,zG,qA,qB,qC,qD,qE,qF,reduceCtorEq,↓reduceIte,qG,zH,zI,zJ,zK,zL,zM,zN,qH,qI,zO,zP,zQ,zR,qJ,zS,zT,Nat.reduceAdd,Nat.reduceLT,Int.reduceLT,Int.reduceLE,Int.reduceNeg,Int.reduceSub,Int.reduceMul,Int.reduceAdd,Int.reduceToNat,qO,qP,zU,zV,zW,zX,zY,zZ,aR1,aR2,aW1,aW2,aW3,aW4,aW5,aW6,aW7,aW8,aW9,aWa,aWb,qK,qL,qM,qN, tagOf_length]
  exact ⟨by (first | lia | omega), q _ _ (fr1.trans fr2) (by rw [List.length_append, tagOf_length, hb])⟩
theorem c_head_mask (bs : Base w B) (tb : Tabs B) {key s : List UInt8} {m : Nat} {h : H} {Q : K1} (hm : 2 ≤ m) (q : ∀ h' (b : List UInt8), Fr [] h h' → b.length = 5 → Q (.bytes b) h') :
    G w B m 312 [.bytes key, .bytes s] h Q := by
  refine fn_go bs tb (f_head_mask _) (by first | exact mm hm | exact m1 hm | decide | (first | lia | omega)) [some (.bytes key), some (.bytes s)] rfl rfl ?_
  simp only [b_head_mask, wpSs,↓xG,↓vC,↓vE,↓vF,↓vG,↓vH,↓vS,↓wH,wpEs,wpOr,wpAnd,↓tD,wpIt,wpBin,cmpV,eqO,eqV,inV,seqOf,wpIdx,wpSlc,wpBytes,wpLen,wpIndex,wpSetItem,wpSetAttr,wpAttr,initOf,methN,posOf,sizesL,kindsL,frees,putF,getN,zA,zB,zC,zD,zE,zF,zG,qA,qB,qC,qD,qE,qF,reduceCtorEq,↓reduceIte,qG,zH,zI,zJ,zK,zL,zM,zN,qH,qI,zO,zP,zQ,zR,qJ,zS,zT,Nat.reduceAdd,Nat.reduceLT,Int.reduceLT,Int.reduceLE,Int.reduceNeg,Int.reduceSub,Int.reduceMul,Int.reduceAdd,Int.reduceToNat,qO,qP,zU,zV,zW,zX,zY,zZ,aR1,aR2,aW1,aW2,aW3,aW4,aW5,aW6,aW7,aW8,aW9,aWa,aWb,qK,qL,qM,qN]
  refine c_mixed bs tb (s := 7) (by first | exact mm hm | exact m1 hm | decide | (first | lia | omega)) ?_
  refine c_mixed bs tb (by first | exact mm hm | exact m1 hm | decide | (first | lia | omega)) ?_
  refine c_put_whole bs tb (size := 16) ?_ (by first | exact mm hm | exact m1 hm | decide | (first | lia | omega)) (by first | exact mm hm | exact m1 hm | decide | (first | lia | omega)) fun h2 fr2 => ?_
  · have := mix_lt (mix 7 key) s
    have e : (256 : Nat) ^ 16 = 340282366920938463463374607431768211456 := by decide
    rw [e]
    unfold M127 at this
    (first | lia | omega)
  · simp only [wpSs,↓xG,↓vC,↓vE,↓vF,↓vG,↓vH,↓vS,↓wH,wpEs,wpOr,wpAnd,↓tD,wpIt,wpBin,cmpV,eqO,eqV,inV,seqOf,wpIdx,wpSlc,wpBytes,wpLen,wpIndex,wpSetItem,wpSetAttr,wpAttr,initOf,methN,posOf,sizesL,kindsL,frees,putF,getN,zA,zB,zC,zD,zE,zF,zG,qA,qB,qC,qD,qE,qF,reduceCtorEq,↓reduceIte,qG,zH,zI,zJ,zK,zL,zM,zN,qH,qI,zO,zP,zQ,zR,qJ,zS,zT,Nat.reduceAdd,Nat.reduceLT,Int.reduceLT,Int.reduceLE,Int.reduceNeg,Int.reduceSub,Int.reduceMul,Int.reduceAdd,Int.reduceToNat,qO,qP,zU,zV,zW,zX,zY,zZ,aR1,aR2,aW1,aW2,aW3,aW4,aW5,aW6,aW7,aW8,aW9,aWa,aWb,qK,qL,qM,qN]
    have e : cut (beN 16 (mix (mix 7 key) s)) (some (11 : Int)) none = (beN 16 (mix (mix 7 key) s)).drop 11 := cut_from (a := 11) (by rw [beN_length]; (first | lia | omega))
    rw [e]
    exact q _ _ fr2 (by rw [List.length_drop, beN_length])
theorem xor_div {a b k : Nat} (hb : b < 2 ^ k) : (a ^^^ b) / 2 ^ k = a / 2 ^ k := by
  rw [Nat.xor_div_two_pow, Nat.div_eq_of_lt hb, Nat.xor_zero]
theorem c_turned_first (bs : Base w B) (tb : Tabs B) {f m : Nat} {mk : List UInt8} {h : H} {Q : K1} (hf : 192 ≤ f ∧ f < 208) (hmk : mk.length = 5) (hm : 1 ≤ m) (q : ∀ r : Nat, 192 ≤ r ∧ r < 208 → Q (.int r) h) :
    G w B m 319 [.int f, .bytes mk] h Q := by
  refine fn_go bs tb (f_turned_first _) (by first | exact mm hm | exact m1 hm | decide | (first | lia | omega)) [some (.int f), some (.bytes mk)] rfl rfl ?_
  have h0 : decide ((f : Int) ≥ 128) = true := by simp; (first | lia | omega)
  simp only [b_turned_first, wpSs,↓xD,↓xG,↓vC,↓vE,↓vF,↓vH,↓vM,↓vO,↓wG,wpEs,wpOr,wpAnd,↓tD,wpIt,wpBin,cmpV,eqO,eqV,inV,seqOf,wpIdx,wpSlc,wpBytes,wpLen,wpIndex,wpSetItem,wpSetAttr,wpAttr,initOf,methN,posOf,sizesL,kindsL,frees,putF,getN,zA,zB,zC,zD,zE,zF,zG,qA,qB,qC,qD,qE,qF,reduceCtorEq,↓reduceIte,qG,zH,zI,zJ,zK,zL,zM,zN,qH,qI,zO,zP,zQ,zR,qJ,zS,zT,Nat.reduceAdd,Nat.reduceLT,Int.reduceLT,Int.reduceLE,Int.reduceNeg,Int.reduceSub,Int.reduceMul,Int.reduceAdd,Int.reduceToNat,qO,qP,zU,zV,zW,zX,zY,zZ,aR1,aR2,aW1,aW2,aW3,aW4,aW5,aW6,aW7,aW8,aW9,aWa,aWb,qK,qL,qM,qN, h0, hmk]
  generalize mk.getD 0 0 = u
  have h1 : (u.toNat &&& 15) < 2 ^ 4 := Nat.lt_of_le_of_lt Nat.and_le_right (by decide)
  refine ⟨by decide, by (first | lia | omega), ⟨by (first | lia | omega), by (first | lia | omega)⟩, ?_⟩
  have h2 : (f ^^^ (u.toNat &&& 15)) / 2 ^ 4 = f / 2 ^ 4 := xor_div h1
  have h3 : f / 2 ^ 4 = 12 := by (first | lia | omega)
  exact q (f ^^^ (u.toNat &&& 15)) (by first | exact mm hm | exact m1 hm | decide | (first | lia | omega))
theorem c_turned_number (bs : Base w B) (tb : Tabs B) {o mk : List UInt8} {m : Nat} {h : H} {Q : K1} (ho : o.length = 1) (hmk : mk.length = 5) (hm : 1 ≤ m) (q : ∀ h' (b : List UInt8), Fr [] h h' → b.length = 1 → Q (.bytes b) h') :
    G w B m 324 [.bytes o, .bytes mk] h Q := by
  refine fn_go bs tb (f_turned_number _) (by first | exact mm hm | exact m1 hm | decide | (first | lia | omega)) [some (.bytes o), some (.bytes mk)] rfl rfl ?_
  obtain ⟨u, rfl⟩ : ∃ u, o = [u] := by
    match o, ho with
    | [u], _ => exact ⟨u, rfl⟩
  simp only [b_turned_number, wpSs,↓xG,↓vC,↓vE,↓vF,↓vH,↓vV,↓wG,↓wM,wpEs,wpOr,wpAnd,↓tD,wpIt,wpBin,cmpV,eqO,eqV,inV,seqOf,wpIdx,wpSlc,wpBytes,wpLen,wpIndex,wpSetItem,wpSetAttr,wpAttr,initOf,methN,posOf,sizesL,kindsL,frees,putF,getN,zA,zB,zC,zD,zE,zF,zG,qA,qB,qC,qD,qE,qF,reduceCtorEq,↓reduceIte,qG,zH,zI,zJ,zK,zL,zM,zN,qH,qI,zO,zP,zQ,zR,qJ,zS,zT,Nat.reduceAdd,Nat.reduceLT,Int.reduceLT,Int.reduceLE,Int.reduceNeg,Int.reduceSub,Int.reduceMul,Int.reduceAdd,Int.reduceToNat,qO,qP,zU,zV,zW,zX,zY,zZ,aR1,aR2,aW1,aW2,aW3,aW4,aW5,aW6,aW7,aW8,aW9,aWa,aWb,qK,qL,qM,qN]
  have h2 : u.toNat ^^^ (mk.getD 1 0).toNat < 2 ^ 8 := Nat.xor_lt_two_pow u.toNat_lt (mk.getD 1 0).toNat_lt
  refine ⟨fun i => .int ((u.toNat ^^^ (mk.getD 1 0).toNat : Nat) : Int), ⟨by decide, fun i v e => ?_⟩, ?_⟩
  · match i, e with
    | 0, e =>
      cases e
      simp only [wpSs,↓xG,↓vC,↓vE,↓vF,↓vH,↓vV,↓wG,↓wM,wpEs,wpOr,wpAnd,↓tD,wpIt,wpBin,cmpV,eqO,eqV,inV,seqOf,wpIdx,wpSlc,wpBytes,wpLen,wpIndex,wpSetItem,wpSetAttr,wpAttr,initOf,methN,posOf,sizesL,kindsL,frees,putF,getN,zA,zB,zC,zD,zE,zF,zG,qA,qB,qC,qD,qE,qF,reduceCtorEq,↓reduceIte,qG,zH,zI,zJ,zK,zL,zM,zN,qH,qI,zO,zP,zQ,zR,qJ,zS,zT,Nat.reduceAdd,Nat.reduceLT,Int.reduceLT,Int.reduceLE,Int.reduceNeg,Int.reduceSub,Int.reduceMul,Int.reduceAdd,Int.reduceToNat,qO,qP,zU,zV,zW,zX,zY,zZ,aR1,aR2,aW1,aW2,aW3,aW4,aW5,aW6,aW7,aW8,aW9,aWa,aWb,qK,qL,qM,qN, frees, hmk]
      refine ⟨⟨by (first | lia | omega), by (first | lia | omega)⟩, ⟨by (first | lia | omega), by (first | lia | omega)⟩, rfl, rfl, [], by simp⟩
    | i + 1, e => simp at e
  · have e : octetsOf ([V.int ((u.toNat ^^^ (mk.getD 1 0).toNat : Nat) : Int)]) = some [(u.toNat ^^^ (mk.getD 1 0).toNat).toUInt8] := octetsOf_one h2
    have e2 : (List.range 1).map (fun i => V.int ((u.toNat ^^^ (mk.getD 1 0).toNat : Nat) : Int)) = [V.int ((u.toNat ^^^ (mk.getD 1 0).toNat : Nat) : Int)] := rfl
    rw [e2]
    simp only [wpSs,↓xG,↓vC,↓vE,↓vF,↓vH,↓vV,↓wG,↓wM,wpEs,wpOr,wpAnd,↓tD,wpIt,wpBin,cmpV,eqO,eqV,inV,seqOf,wpIdx,wpSlc,wpBytes,wpLen,wpIndex,wpSetItem,wpSetAttr,wpAttr,initOf,methN,posOf,sizesL,kindsL,frees,putF,getN,zA,zB,zC,zD,zE,zF,zG,qA,qB,qC,qD,qE,qF,reduceCtorEq,↓reduceIte,qG,zH,zI,zJ,zK,zL,zM,zN,qH,qI,zO,zP,zQ,zR,qJ,zS,zT,Nat.reduceAdd,Nat.reduceLT,Int.reduceLT,Int.reduceLE,Int.reduceNeg,Int.reduceSub,Int.reduceMul,Int.reduceAdd,Int.reduceToNat,qO,qP,zU,zV,zW,zX,zY,zZ,aR1,aR2,aW1,aW2,aW3,aW4,aW5,aW6,aW7,aW8,aW9,aWa,aWb,qK,qL,qM,qN, e]
    exact ⟨by decide, q _ _ (Fr.app _ _) rfl⟩
theorem c_sample_at (bs : Base w B) (tb : Tabs B) {D : List UInt8} {a m : Nat} {h : H} {Q : K1} (ha : a + 20 ≤ D.length) (hm : 1 ≤ m) (q : ∀ b : List UInt8, Q (.bytes b) h) : G w B m 331 [.bytes D, .int a, .int D.length] h Q := by
  refine fn_go bs tb (f_sample_at _) (by first | exact mm hm | exact m1 hm | decide | (first | lia | omega)) [some (.bytes D), some (.int a), some (.int D.length)] rfl rfl ?_
  have h0 : decide ((a : Int) + 4 + 16 > D.length) = false := by simp; (first | lia | omega)
  simp only [b_sample_at, tl_sample_at_1, wpSs,↓xD,↓xG,↓vA,↓vC,↓vE,↓vF,↓vG,↓vH,↓vM,↓vO,↓wJ,wpEs,wpOr,wpAnd,↓tD,wpIt,wpBin,cmpV,eqO,eqV,inV,seqOf,wpIdx,wpSlc,wpBytes,wpLen,wpIndex,wpSetItem,wpSetAttr,wpAttr,initOf,methN,posOf,sizesL,kindsL,frees,putF,getN,zA,zB,zC,zD,zE,zF,zG,qA,qB,qC,qD,qE,qF,reduceCtorEq,↓reduceIte,qG,zH,zI,zJ,zK,zL,zM,zN,qH,qI,zO,zP,zQ,zR,qJ,zS,zT,Nat.reduceAdd,Nat.reduceLT,Int.reduceLT,Int.reduceLE,Int.reduceNeg,Int.reduceSub,Int.reduceMul,Int.reduceAdd,Int.reduceToNat,qO,qP,zU,zV,zW,zX,zY,zZ,aR1,aR2,aW1,aW2,aW3,aW4,aW5,aW6,aW7,aW8,aW9,aWa,aWb,qK,qL,qM,qN, h0]
  exact q _
theorem c_padded (bs : Base w B) (tb : Tabs B) {d : List UInt8} {m : Nat} {h : H} {Q : K1} (hd : d.length = 5) (hm : 1 ≤ m) (q : Q (.bytes d) h) : G w B m 338 [.bytes d, .int 1] h Q := by
  refine fn_go bs tb (f_padded_payload _) (by first | exact mm hm | exact m1 hm | decide | (first | lia | omega)) [some (.bytes d), some (.int 1), none] rfl rfl ?_
  simp only [b_padded_payload, wpSs,↓xB,↓xD,↓xG,↓vC,↓vE,↓vF,↓vH,↓vM,↓vO,↓vU,↓vV,wpEs,wpOr,wpAnd,↓tA,↓tD,wpIt,wpBin,cmpV,eqO,eqV,inV,seqOf,wpIdx,wpSlc,wpBytes,wpLen,wpIndex,wpSetItem,wpSetAttr,wpAttr,initOf,methN,posOf,sizesL,kindsL,frees,putF,getN,zA,zB,zC,zD,zE,zF,zG,qA,qB,qC,qD,qE,qF,reduceCtorEq,↓reduceIte,qG,zH,zI,zJ,zK,zL,zM,zN,qH,qI,zO,zP,zQ,zR,qJ,zS,zT,Nat.reduceAdd,Nat.reduceLT,Int.reduceLT,Int.reduceLE,Int.reduceNeg,Int.reduceSub,Int.reduceMul,Int.reduceAdd,Int.reduceToNat,qO,qP,zU,zV,zW,zX,zY,zZ,aR1,aR2,aW1,aW2,aW3,aW4,aW5,aW6,aW7,aW8,aW9,aWa,aWb,qK,qL,qM,qN, hd]
  have h0 : decide ((3 : Int) - ((5 : Nat) : Int) > 0) = false := by decide
  simp only [h0, wpSs,↓xB,↓xD,↓xG,↓vC,↓vE,↓vF,↓vH,↓vM,↓vO,↓vU,↓vV,wpEs,wpOr,wpAnd,↓tA,↓tD,wpIt,wpBin,cmpV,eqO,eqV,inV,seqOf,wpIdx,wpSlc,wpBytes,wpLen,wpIndex,wpSetItem,wpSetAttr,wpAttr,initOf,methN,posOf,sizesL,kindsL,frees,putF,getN,zA,zB,zC,zD,zE,zF,zG,qA,qB,qC,qD,qE,qF,reduceCtorEq,↓reduceIte,qG,zH,zI,zJ,zK,zL,zM,zN,qH,qI,zO,zP,zQ,zR,qJ,zS,zT,Nat.reduceAdd,Nat.reduceLT,Int.reduceLT,Int.reduceLE,Int.reduceNeg,Int.reduceSub,Int.reduceMul,Int.reduceAdd,Int.reduceToNat,qO,qP,zU,zV,zW,zX,zY,zZ,aR1,aR2,aW1,aW2,aW3,aW4,aW5,aW6,aW7,aW8,aW9,aWa,aWb,qK,qL,qM,qN]
  exact q
theorem c_protected (bs : Base w B) (tb : Tabs B) {key ht c d : List UInt8} {f0 : UInt8} {n m : Nat} {h : H} {Q : K1} (hf : 192 ≤ f0.toNat ∧ f0.toNat < 208) (hh : ht.length ≤ 500) (hc : c.length = 1) (hd : d.length = 5) (hm : 4 ≤ m)
    (q : ∀ h' (f1 : UInt8) (x : List UInt8), Fr [] h h' → 192 ≤ f1.toNat ∧ f1.toNat < 208 → x.length = 22 → Q (.bytes (f1 :: (ht ++ x))) h') :
    G w B m 345 [.bytes key, .int n, .bytes (f0 :: ht), .bytes c, .bytes d] h Q := by
  refine fn_go bs tb (f_protected_packet _) (by first | exact mm hm | exact m1 hm | decide | (first | lia | omega)) [some (.bytes key), some (.int n), some (.bytes (f0 :: ht)), some (.bytes c), some (.bytes d), none, none, none, none] rfl rfl ?_
  simp only [b_protected_packet, wpSs,↓xB,↓xG,↓vC,↓vE,↓vF,↓vH,↓vQ,↓vS,↓vU,↓vV,↓wG,↓wH,wpEs,wpOr,wpAnd,↓tA,↓tD,wpIt,wpBin,cmpV,eqO,eqV,inV,seqOf,wpIdx,wpSlc,wpBytes,wpLen,wpIndex,wpSetItem,wpSetAttr,wpAttr,initOf,methN,posOf,sizesL,kindsL,frees,putF,getN,zA,zB,zC,zD,zE,zF,zG,qA,qB,qC,qD,qE,qF,reduceCtorEq,↓reduceIte,qG,zH,zI,zJ,zK,zL,zM,zN,qH,qI,zO,zP,zQ,zR,qJ,zS,zT,Nat.reduceAdd,Nat.reduceLT,Int.reduceLT,Int.reduceLE,Int.reduceNeg,Int.reduceSub,Int.reduceMul,Int.reduceAdd,Int.reduceToNat,qO,qP,zU,zV,zW,zX,zY,zZ,aR1,aR2,aW1,aW2,aW3,aW4,aW5,aW6,aW7,aW8,aW9,aWa,aWb,qK,qL,qM,qN]
  refine ⟨by (first | lia | omega), ?_⟩
  refine c_seal_payload bs tb (by simp; (first | lia | omega)) (by first | exact mm hm | exact m1 hm | decide | (first | lia | omega)) (by first | exact mm hm | exact m1 hm | decide | (first | lia | omega)) fun h1 b fr1 hb => ?_
  simp only [tl_protected_packet_2, wpSs,↓xB,↓xG,↓vC,↓vE,↓vF,↓vH,↓vQ,↓vS,↓vU,↓vV,↓wG,↓wH,wpEs,wpOr,wpAnd,↓tA,↓tD,wpIt,wpBin,cmpV,eqO,eqV,inV,seqOf,wpIdx,wpSlc,wpBytes,wpLen,wpIndex,wpSetItem,wpSetAttr,wpAttr,initOf,methN,posOf,sizesL,kindsL,frees,putF,getN,zA,zB,zC,zD,zE,zF,zG,qA,qB,qC,qD,qE,qF,reduceCtorEq,↓reduceIte,qG,zH,zI,zJ,zK,zL,zM,zN,qH,qI,zO,zP,zQ,zR,qJ,zS,zT,Nat.reduceAdd,Nat.reduceLT,Int.reduceLT,Int.reduceLE,Int.reduceNeg,Int.reduceSub,Int.reduceMul,Int.reduceAdd,Int.reduceToNat,qO,qP,zU,zV,zW,zX,zY,zZ,aR1,aR2,aW1,aW2,aW3,aW4,aW5,aW6,aW7,aW8,aW9,aWa,aWb,qK,qL,qM,qN]
  refine ⟨by simp; (first | lia | omega), ?_⟩
  have hl : (f0 :: (ht ++ c ++ b)).length = ht.length + 23 := by simp; (first | lia | omega)
  have e1 : (((ht ++ c ++ b).length + 1 : Nat) : Int) = ((f0 :: (ht ++ c ++ b)).length : Nat) := rfl
  rw [e1]
  refine c_sample_at bs tb (by rw [hl]; (first | lia | omega)) (by first | exact mm hm | exact m1 hm | decide | (first | lia | omega)) fun sb => ?_
  refine c_head_mask bs tb (by first | exact mm hm | exact m1 hm | decide | (first | lia | omega)) fun h2 mk fr2 hmk => ?_
  simp only [tl_protected_packet_4, wpSs,↓xB,↓xG,↓vC,↓vE,↓vF,↓vH,↓vQ,↓vS,↓vU,↓vV,↓wG,↓wH,wpEs,wpOr,wpAnd,↓tA,↓tD,wpIt,wpBin,cmpV,eqO,eqV,inV,seqOf,wpIdx,wpSlc,wpBytes,wpLen,wpIndex,wpSetItem,wpSetAttr,wpAttr,initOf,methN,posOf,sizesL,kindsL,frees,putF,getN,zA,zB,zC,zD,zE,zF,zG,qA,qB,qC,qD,qE,qF,reduceCtorEq,↓reduceIte,qG,zH,zI,zJ,zK,zL,zM,zN,qH,qI,zO,zP,zQ,zR,qJ,zS,zT,Nat.reduceAdd,Nat.reduceLT,Int.reduceLT,Int.reduceLE,Int.reduceNeg,Int.reduceSub,Int.reduceMul,Int.reduceAdd,Int.reduceToNat,qO,qP,zU,zV,zW,zX,zY,zZ,aR1,aR2,aW1,aW2,aW3,aW4,aW5,aW6,aW7,aW8,aW9,aWa,aWb,qK,qL,qM,qN]
  refine ⟨⟨by (first | lia | omega), by (first | lia | omega)⟩, c_turned_first bs tb hf hmk (by first | exact mm hm | exact m1 hm | decide | (first | lia | omega)) fun r hr => ?_⟩
  simp only [wpSs,↓xB,↓xG,↓vC,↓vE,↓vF,↓vH,↓vQ,↓vS,↓vU,↓vV,↓wG,↓wH,wpEs,wpOr,wpAnd,↓tA,↓tD,wpIt,wpBin,cmpV,eqO,eqV,inV,seqOf,wpIdx,wpSlc,wpBytes,wpLen,wpIndex,wpSetItem,wpSetAttr,wpAttr,initOf,methN,posOf,sizesL,kindsL,frees,putF,getN,zA,zB,zC,zD,zE,zF,zG,qA,qB,qC,qD,qE,qF,reduceCtorEq,↓reduceIte,qG,zH,zI,zJ,zK,zL,zM,zN,qH,qI,zO,zP,zQ,zR,qJ,zS,zT,Nat.reduceAdd,Nat.reduceLT,Int.reduceLT,Int.reduceLE,Int.reduceNeg,Int.reduceSub,Int.reduceMul,Int.reduceAdd,Int.reduceToNat,qO,qP,zU,zV,zW,zX,zY,zZ,aR1,aR2,aW1,aW2,aW3,aW4,aW5,aW6,aW7,aW8,aW9,aWa,aWb,qK,qL,qM,qN, octetsOf_one (show r < 256 by (first | lia | omega))]
  have e2 : cut (f0 :: ht) (some (1 : Int)) none = ht := cut_from (d := f0 :: ht) (a := 1) (by simp)
  rw [e2]
  refine ⟨by decide, by (first | lia | omega), c_turned_number bs tb hc hmk (by first | exact mm hm | exact m1 hm | decide | (first | lia | omega)) fun h3 c2 fr3 hc2 => ?_⟩
  refine ⟨(by first | omega | decide | (simp; done) | (simp; omega)), (by first | omega | decide | (simp; done) | (simp; omega)), ?_⟩
  exact Qb (b := r.toUInt8 :: (ht ++ (c2 ++ b))) (q h3 r.toUInt8 (c2 ++ b) (((fr1.trans fr2).push _).trans fr3) (by rw [toU8, Nat.mod_eq_of_lt (by first | exact mm hm | exact m1 hm | decide | (first | lia | omega))]; exact hr) (by rw [List.length_append]; (first | lia | omega))) (by simp)
end
end Mine
end
section
set_option maxRecDepth 100000
set_option maxHeartbeats 2000000
set_option backward.match.sparseCases false
set_option linter.all false
namespace Mine
open PySem PySem.W
noncomputable def headI (d s tok : List UInt8) : List UInt8 := beN 4 1 ++ (ids d s ++ (tok.length.toUInt8 :: (tok ++ [22])))
noncomputable def negData (low : Nat) (d s : List UInt8) (vs : List Nat) : List UInt8 := (128 + low % 128).toUInt8 :: (beN 4 0 ++ (ids d s ++ (vs.map (beN 4)).flatten))
noncomputable def retryHead (low : Nat) (d s tok : List UInt8) : List UInt8 := (240 + low % 16).toUInt8 :: (beN 4 1 ++ (ids d s ++ tok))
noncomputable def rKey : List UInt8 := [114, 101, 116, 114, 121]
noncomputable def retryData (low : Nat) (d s tok od : List UInt8) : List UInt8 := retryHead low d s tok ++ tagOf rKey od.length od (retryHead low d s tok)
noncomputable def tokBody (od : List UInt8) (time : Nat) : List UInt8 := beN 8 time ++ (od.length.toUInt8 :: od)
noncomputable def tokenOf (secret address od : List UInt8) (time : Nat) : List UInt8 := tokBody od time ++ tagOf secret address.length address (tokBody od time)
theorem ids_length (d s : List UInt8) : (ids d s).length = d.length + s.length + 2 := by simp [ids]; (first | lia | omega)
section
variable {w : World} {B : Heap}
theorem c_number_size (bs : Base w B) (tb : Tabs B) {m : Nat} {h : H} {Q : K1} (hm : 1 ≤ m) (q : Q (.int 1) h) : G w B m 408 [.int 0, .none] h Q := by
  refine fn_go bs tb (f_number_size _) hm [some (.int 0), some .none, none, none] rfl rfl ?_
  simp only [b_number_size, tl_number_size_2, wpSs,↓xB,↓xD,↓xF,↓xG,↓xJ,↓vA,↓vC,↓vF,↓vG,↓vH,↓vM,↓vO,wpEs,wpOr,wpAnd,↓tA,↓tD,wpIt,wpBin,cmpV,eqO,eqV,inV,seqOf,wpIdx,wpSlc,wpBytes,wpLen,wpIndex,wpSetItem,wpSetAttr,wpAttr,initOf,methN,posOf,sizesL,kindsL,frees,putF,getN,zA,zB,zC,zD,zE,zF,zG,qA,qB,qC,qD,qE,qF,reduceCtorEq,↓reduceIte,qG,zH,zI,zJ,zK,zL,zM,zN,qH,qI,zO,zP,zQ,zR,qJ,zS,zT,Nat.reduceAdd,Nat.reduceLT,Int.reduceLT,Int.reduceLE,Int.reduceNeg,Int.reduceSub,Int.reduceMul,Int.reduceAdd,Int.reduceToNat,qO,qP,zU,zV,zW,zX,zY,zZ,aR1,aR2,aW1,aW2,aW3,aW4,aW5,aW6,aW7,aW8,aW9,aWa,aWb,qK,qL,qM,qN]
  have e : rangeUp 1 5 = [.int 1, .int 2, .int 3, .int 4] := by decide
  rw [e]
  refine ⟨by simp, ?_⟩
  simp only [lb_number_size_0, wpSs,↓xB,↓xD,↓xF,↓xG,↓xJ,↓vA,↓vC,↓vF,↓vG,↓vH,↓vM,↓vO,wpEs,wpOr,wpAnd,↓tA,↓tD,wpIt,wpBin,cmpV,eqO,eqV,inV,seqOf,wpIdx,wpSlc,wpBytes,wpLen,wpIndex,wpSetItem,wpSetAttr,wpAttr,initOf,methN,posOf,sizesL,kindsL,frees,putF,getN,zA,zB,zC,zD,zE,zF,zG,qA,qB,qC,qD,qE,qF,reduceCtorEq,↓reduceIte,qG,zH,zI,zJ,zK,zL,zM,zN,qH,qI,zO,zP,zQ,zR,qJ,zS,zT,Nat.reduceAdd,Nat.reduceLT,Int.reduceLT,Int.reduceLE,Int.reduceNeg,Int.reduceSub,Int.reduceMul,Int.reduceAdd,Int.reduceToNat,qO,qP,zU,zV,zW,zX,zY,zZ,aR1,aR2,aW1,aW2,aW3,aW4,aW5,aW6,aW7,aW8,aW9,aWa,aWb,qK,qL,qM,qN]
  have h0 : decide ((2 : Int) ≤ 1 * 2 ^ (8 : Nat)) = true := by decide
  simp only [h0, wpSs,↓xB,↓xD,↓xF,↓xG,↓xJ,↓vA,↓vC,↓vF,↓vG,↓vH,↓vM,↓vO,wpEs,wpOr,wpAnd,↓tA,↓tD,wpIt,wpBin,cmpV,eqO,eqV,inV,seqOf,wpIdx,wpSlc,wpBytes,wpLen,wpIndex,wpSetItem,wpSetAttr,wpAttr,initOf,methN,posOf,sizesL,kindsL,frees,putF,getN,zA,zB,zC,zD,zE,zF,zG,qA,qB,qC,qD,qE,qF,reduceCtorEq,↓reduceIte,qG,zH,zI,zJ,zK,zL,zM,zN,qH,qI,zO,zP,zQ,zR,qJ,zS,zT,Nat.reduceAdd,Nat.reduceLT,Int.reduceLT,Int.reduceLE,Int.reduceNeg,Int.reduceSub,Int.reduceMul,Int.reduceAdd,Int.reduceToNat,qO,qP,zU,zV,zW,zX,zY,zZ,aR1,aR2,aW1,aW2,aW3,aW4,aW5,aW6,aW7,aW8,aW9,aWa,aWb,qK,qL,qM,qN]
  exact ⟨.inl (by decide), .inl (by decide), by decide, q⟩
theorem c_cut_number (bs : Base w B) (tb : Tabs B) {m : Nat} {h : H} {Q : K1} (hm : 2 ≤ m) (q : ∀ h', Fr [] h h' → Q (.bytes [0]) h') : G w B m 415 [.int 0, .none] h Q := by
  refine fn_go bs tb (f_cut_number _) (by first | exact mm hm | exact m1 hm | decide | (first | lia | omega)) [some (.int 0), some .none, none] rfl rfl ?_
  simp only [b_cut_number, wpSs,↓xB,↓xG,↓vA,↓vC,↓vE,↓vF,↓vH,↓vS,wpEs,wpOr,wpAnd,↓tA,↓tD,wpIt,wpBin,cmpV,eqO,eqV,inV,seqOf,wpIdx,wpSlc,wpBytes,wpLen,wpIndex,wpSetItem,wpSetAttr,wpAttr,initOf,methN,posOf,sizesL,kindsL,frees,putF,getN,zA,zB,zC,zD,zE,zF,zG,qA,qB,qC,qD,qE,qF,reduceCtorEq,↓reduceIte,qG,zH,zI,zJ,zK,zL,zM,zN,qH,qI,zO,zP,zQ,zR,qJ,zS,zT,Nat.reduceAdd,Nat.reduceLT,Int.reduceLT,Int.reduceLE,Int.reduceNeg,Int.reduceSub,Int.reduceMul,Int.reduceAdd,Int.reduceToNat,qO,qP,zU,zV,zW,zX,zY,zZ,aR1,aR2,aW1,aW2,aW3,aW4,aW5,aW6,aW7,aW8,aW9,aWa,aWb,qK,qL,qM,qN]
  refine c_number_size bs tb (by first | exact mm hm | exact m1 hm | decide | (first | lia | omega)) ?_
  simp only [tl_cut_number_1, wpSs,↓xB,↓xG,↓vA,↓vC,↓vE,↓vF,↓vH,↓vS,wpEs,wpOr,wpAnd,↓tA,↓tD,wpIt,wpBin,cmpV,eqO,eqV,inV,seqOf,wpIdx,wpSlc,wpBytes,wpLen,wpIndex,wpSetItem,wpSetAttr,wpAttr,initOf,methN,posOf,sizesL,kindsL,frees,putF,getN,zA,zB,zC,zD,zE,zF,zG,qA,qB,qC,qD,qE,qF,reduceCtorEq,↓reduceIte,qG,zH,zI,zJ,zK,zL,zM,zN,qH,qI,zO,zP,zQ,zR,qJ,zS,zT,Nat.reduceAdd,Nat.reduceLT,Int.reduceLT,Int.reduceLE,Int.reduceNeg,Int.reduceSub,Int.reduceMul,Int.reduceAdd,Int.reduceToNat,qO,qP,zU,zV,zW,zX,zY,zZ,aR1,aR2,aW1,aW2,aW3,aW4,aW5,aW6,aW7,aW8,aW9,aWa,aWb,qK,qL,qM,qN]
  refine ⟨by decide, by decide, by decide, ?_⟩
  refine c_put_whole bs tb (n := 0) (size := 1) (by decide) (by first | exact mm hm | exact m1 hm | decide | (first | lia | omega)) (by first | exact mm hm | exact m1 hm | decide | (first | lia | omega)) fun h' fr => ?_
  exact q h' fr
theorem c_long_head (bs : Base w B) (tb : Tabs B) {d s tok : List UInt8} {m : Nat} {h : H} {Q : K1} (hd : d.length < 256) (hs : s.length < 256) (ht : tok.length < 64) (hm : 3 ≤ m)
    (q : ∀ h', Fr [] h h' → Q (.bytes (192 :: headI d s tok)) h') : G w B m 209 [.str .initial, .int 1, .bytes d, .bytes s, .bytes tok, .int 22, .int 1] h Q := by
  refine fn_go bs tb (f_long_head _) (by first | exact mm hm | exact m1 hm | decide | (first | lia | omega)) [some (.str .initial), some (.int 1), some (.bytes d), some (.bytes s), some (.bytes tok), some (.int 22), some (.int 1), none] rfl rfl ?_
  simp only [b_long_head, wpSs,↓xB,↓xD,↓xG,↓vA,↓vC,↓vD,↓vE,↓vF,↓vH,↓vM,↓vO,↓vP,↓vQ,↓vS,↓vU,↓vV,wpEs,wpOr,wpAnd,↓tA,↓tB,↓tD,↓yA,↓yB,wpIt,wpBin,cmpV,eqO,eqV,inV,seqOf,wpIdx,wpSlc,wpBytes,wpLen,wpIndex,wpSetItem,wpSetAttr,wpAttr,initOf,methN,posOf,sizesL,kindsL,frees,putF,getN,zA,zB,zC,zD,zE,zF,zG,qA,qB,qC,qD,qE,qF,reduceCtorEq,↓reduceIte,qG,zH,zI,zJ,zK,zL,zM,zN,qH,qI,zO,zP,zQ,zR,qJ,zS,zT,Nat.reduceAdd,Nat.reduceLT,Int.reduceLT,Int.reduceLE,Int.reduceNeg,Int.reduceSub,Int.reduceMul,Int.reduceAdd,Int.reduceToNat,qO,qP,zU,zV,zW,zX,zY,zZ,aR1,aR2,aW1,aW2,aW3,aW4,aW5,aW6,aW7,aW8,aW9,aWa,aWb,qK,qL,qM,qN]
  refine c_long_first_i bs tb (n := 0) (by first | exact mm hm | exact m1 hm | decide | (first | lia | omega)) ?_
  simp only [wpSs,↓xB,↓xD,↓xG,↓vA,↓vC,↓vD,↓vE,↓vF,↓vH,↓vM,↓vO,↓vP,↓vQ,↓vS,↓vU,↓vV,wpEs,wpOr,wpAnd,↓tA,↓tB,↓tD,↓yA,↓yB,wpIt,wpBin,cmpV,eqO,eqV,inV,seqOf,wpIdx,wpSlc,wpBytes,wpLen,wpIndex,wpSetItem,wpSetAttr,wpAttr,initOf,methN,posOf,sizesL,kindsL,frees,putF,getN,zA,zB,zC,zD,zE,zF,zG,qA,qB,qC,qD,qE,qF,reduceCtorEq,↓reduceIte,qG,zH,zI,zJ,zK,zL,zM,zN,qH,qI,zO,zP,zQ,zR,qJ,zS,zT,Nat.reduceAdd,Nat.reduceLT,Int.reduceLT,Int.reduceLE,Int.reduceNeg,Int.reduceSub,Int.reduceMul,Int.reduceAdd,Int.reduceToNat,qO,qP,zU,zV,zW,zX,zY,zZ,aR1,aR2,aW1,aW2,aW3,aW4,aW5,aW6,aW7,aW8,aW9,aWa,aWb,qK,qL,qM,qN, octetsOf_one (show 192 + 0 < 256 by decide)]
  refine ⟨(by first | omega | decide | (simp; done) | (simp; omega)), c_put_whole bs tb (n := 1) (size := 4) (by decide) (by first | exact mm hm | exact m1 hm | decide | (first | lia | omega)) (by first | exact mm hm | exact m1 hm | decide | (first | lia | omega)) fun h1 fr1 => ?_⟩
  simp only [wpSs,↓xB,↓xD,↓xG,↓vA,↓vC,↓vD,↓vE,↓vF,↓vH,↓vM,↓vO,↓vP,↓vQ,↓vS,↓vU,↓vV,wpEs,wpOr,wpAnd,↓tA,↓tB,↓tD,↓yA,↓yB,wpIt,wpBin,cmpV,eqO,eqV,inV,seqOf,wpIdx,wpSlc,wpBytes,wpLen,wpIndex,wpSetItem,wpSetAttr,wpAttr,initOf,methN,posOf,sizesL,kindsL,frees,putF,getN,zA,zB,zC,zD,zE,zF,zG,qA,qB,qC,qD,qE,qF,reduceCtorEq,↓reduceIte,qG,zH,zI,zJ,zK,zL,zM,zN,qH,qI,zO,zP,zQ,zR,qJ,zS,zT,Nat.reduceAdd,Nat.reduceLT,Int.reduceLT,Int.reduceLE,Int.reduceNeg,Int.reduceSub,Int.reduceMul,Int.reduceAdd,Int.reduceToNat,qO,qP,zU,zV,zW,zX,zY,zZ,aR1,aR2,aW1,aW2,aW3,aW4,aW5,aW6,aW7,aW8,aW9,aWa,aWb,qK,qL,qM,qN]
  refine ⟨by simp [beN_length], c_put_ids bs tb hd hs (by first | exact mm hm | exact m1 hm | decide | (first | lia | omega)) fun h2 fr2 => ?_⟩
  simp only [tl_long_head_1, wpSs,↓xB,↓xD,↓xG,↓vA,↓vC,↓vD,↓vE,↓vF,↓vH,↓vM,↓vO,↓vP,↓vQ,↓vS,↓vU,↓vV,wpEs,wpOr,wpAnd,↓tA,↓tB,↓tD,↓yA,↓yB,wpIt,wpBin,cmpV,eqO,eqV,inV,seqOf,wpIdx,wpSlc,wpBytes,wpLen,wpIndex,wpSetItem,wpSetAttr,wpAttr,initOf,methN,posOf,sizesL,kindsL,frees,putF,getN,zA,zB,zC,zD,zE,zF,zG,qA,qB,qC,qD,qE,qF,reduceCtorEq,↓reduceIte,qG,zH,zI,zJ,zK,zL,zM,zN,qH,qI,zO,zP,zQ,zR,qJ,zS,zT,Nat.reduceAdd,Nat.reduceLT,Int.reduceLT,Int.reduceLE,Int.reduceNeg,Int.reduceSub,Int.reduceMul,Int.reduceAdd,Int.reduceToNat,qO,qP,zU,zV,zW,zX,zY,zZ,aR1,aR2,aW1,aW2,aW3,aW4,aW5,aW6,aW7,aW8,aW9,aWa,aWb,qK,qL,qM,qN]
  refine ⟨by simp [beN_length, ids_length]; (first | lia | omega), c_put_varint bs tb ht (by first | exact mm hm | exact m1 hm | decide | (first | lia | omega)) fun h3 fr3 => ?_⟩
  simp only [tl_long_head_2, wpSs,↓xB,↓xD,↓xG,↓vA,↓vC,↓vD,↓vE,↓vF,↓vH,↓vM,↓vO,↓vP,↓vQ,↓vS,↓vU,↓vV,wpEs,wpOr,wpAnd,↓tA,↓tB,↓tD,↓yA,↓yB,wpIt,wpBin,cmpV,eqO,eqV,inV,seqOf,wpIdx,wpSlc,wpBytes,wpLen,wpIndex,wpSetItem,wpSetAttr,wpAttr,initOf,methN,posOf,sizesL,kindsL,frees,putF,getN,zA,zB,zC,zD,zE,zF,zG,qA,qB,qC,qD,qE,qF,reduceCtorEq,↓reduceIte,qG,zH,zI,zJ,zK,zL,zM,zN,qH,qI,zO,zP,zQ,zR,qJ,zS,zT,Nat.reduceAdd,Nat.reduceLT,Int.reduceLT,Int.reduceLE,Int.reduceNeg,Int.reduceSub,Int.reduceMul,Int.reduceAdd,Int.reduceToNat,qO,qP,zU,zV,zW,zX,zY,zZ,aR1,aR2,aW1,aW2,aW3,aW4,aW5,aW6,aW7,aW8,aW9,aWa,aWb,qK,qL,qM,qN]
  refine ⟨by simp [beN_length, ids_length]; (first | lia | omega), by simp [beN_length, ids_length]; (first | lia | omega), c_put_varint bs tb (n := 22) (by first | exact mm hm | exact m1 hm | decide | (first | lia | omega)) (by first | exact mm hm | exact m1 hm | decide | (first | lia | omega)) fun h4 fr4 => ?_⟩
  simp only [wpSs,↓xB,↓xD,↓xG,↓vA,↓vC,↓vD,↓vE,↓vF,↓vH,↓vM,↓vO,↓vP,↓vQ,↓vS,↓vU,↓vV,wpEs,wpOr,wpAnd,↓tA,↓tB,↓tD,↓yA,↓yB,wpIt,wpBin,cmpV,eqO,eqV,inV,seqOf,wpIdx,wpSlc,wpBytes,wpLen,wpIndex,wpSetItem,wpSetAttr,wpAttr,initOf,methN,posOf,sizesL,kindsL,frees,putF,getN,zA,zB,zC,zD,zE,zF,zG,qA,qB,qC,qD,qE,qF,reduceCtorEq,↓reduceIte,qG,zH,zI,zJ,zK,zL,zM,zN,qH,qI,zO,zP,zQ,zR,qJ,zS,zT,Nat.reduceAdd,Nat.reduceLT,Int.reduceLT,Int.reduceLE,Int.reduceNeg,Int.reduceSub,Int.reduceMul,Int.reduceAdd,Int.reduceToNat,qO,qP,zU,zV,zW,zX,zY,zZ,aR1,aR2,aW1,aW2,aW3,aW4,aW5,aW6,aW7,aW8,aW9,aWa,aWb,qK,qL,qM,qN]
  refine ⟨by simp [beN_length, ids_length]; (first | lia | omega), ?_⟩
  exact Qb (b := 192 :: headI d s tok) (q _ (((((Fr.refl h).push _).trans fr1).trans fr2).trans fr3 |>.trans fr4)) (by simp [headI])
noncomputable def PkAt (h : H) (k : Nat) (d s tok : List UInt8) : Prop := h[k]? = some (.tup [.str .initial, .int 1, .bytes d, .bytes s, .bytes tok, .int 0, .bytes [104, 101, 108, 108, 111]])
theorem c_head_of (bs : Base w B) (tb : Tabs B) {d s tok : List UInt8} {k m : Nat} {h : H} {Q : K1} (e : PkAt h k d s tok) (hd : d.length < 256) (hs : s.length < 256) (ht : tok.length < 64) (hm : 4 ≤ m)
    (q : ∀ h', Fr [] h h' → Q (.bytes (192 :: headI d s tok)) h') : G w B m 429 [.obj k, .int 1, .bytes [104, 101, 108, 108, 111]] h Q := by
  refine fn_go bs tb (f_head_of _) (by first | exact mm hm | exact m1 hm | decide | (first | lia | omega)) [some (.obj k), some (.int 1), some (.bytes [104, 101, 108, 108, 111]), none, none, none] rfl rfl ?_
  unfold PkAt at e
  simp only [b_head_of, wpSs,↓xB,↓xD,↓xG,↓vC,↓vD,↓vE,↓vF,↓vG,↓vH,↓vM,↓vO,↓vS,↓vU,↓wG,wpEs,wpOr,wpAnd,↓tA,↓tD,wpIt,wpBin,cmpV,eqO,eqV,inV,seqOf,wpIdx,wpSlc,wpBytes,wpLen,wpIndex,wpSetItem,wpSetAttr,wpAttr,initOf,methN,posOf,sizesL,kindsL,frees,putF,getN,zA,zB,zC,zD,zE,zF,zG,qA,qB,qC,qD,qE,qF,reduceCtorEq,↓reduceIte,qG,zH,zI,zJ,zK,zL,zM,zN,qH,qI,zO,zP,zQ,zR,qJ,zS,zT,Nat.reduceAdd,Nat.reduceLT,Int.reduceLT,Int.reduceLE,Int.reduceNeg,Int.reduceSub,Int.reduceMul,Int.reduceAdd,Int.reduceToNat,qO,qP,zU,zV,zW,zX,zY,zZ,aR1,aR2,aW1,aW2,aW3,aW4,aW5,aW6,aW7,aW8,aW9,aWa,aWb,qK,qL,qM,qN, e]
  simp only [tl_head_of_3, wpSs,↓xB,↓xD,↓xG,↓vC,↓vD,↓vE,↓vF,↓vG,↓vH,↓vM,↓vO,↓vS,↓vU,↓wG,wpEs,wpOr,wpAnd,↓tA,↓tD,wpIt,wpBin,cmpV,eqO,eqV,inV,seqOf,wpIdx,wpSlc,wpBytes,wpLen,wpIndex,wpSetItem,wpSetAttr,wpAttr,initOf,methN,posOf,sizesL,kindsL,frees,putF,getN,zA,zB,zC,zD,zE,zF,zG,qA,qB,qC,qD,qE,qF,reduceCtorEq,↓reduceIte,qG,zH,zI,zJ,zK,zL,zM,zN,qH,qI,zO,zP,zQ,zR,qJ,zS,zT,Nat.reduceAdd,Nat.reduceLT,Int.reduceLT,Int.reduceLE,Int.reduceNeg,Int.reduceSub,Int.reduceMul,Int.reduceAdd,Int.reduceToNat,qO,qP,zU,zV,zW,zX,zY,zZ,aR1,aR2,aW1,aW2,aW3,aW4,aW5,aW6,aW7,aW8,aW9,aWa,aWb,qK,qL,qM,qN, e]
  exact ⟨by decide, by decide, by decide, by decide, by decide, c_long_head bs tb hd hs ht (by first | exact mm hm | exact m1 hm | decide | (first | lia | omega)) q⟩
theorem c_number_in (bs : Base w B) (tb : Tabs B) {d s tok : List UInt8} {k m : Nat} {h : H} {Q : K1} (e : PkAt h k d s tok) (hm : 1 ≤ m) (q : Q (.int 0) h) : G w B m 436 [.obj k] h Q := by
  refine fn_go bs tb (f_number_in _) (by first | exact mm hm | exact m1 hm | decide | (first | lia | omega)) [some (.obj k)] rfl rfl ?_
  unfold PkAt at e
  simp only [b_number_in, wpSs,↓xG,↓vC,↓vF,↓vH,↓vU,↓wG,wpEs,wpOr,wpAnd,↓tD,wpIt,wpBin,cmpV,eqO,eqV,inV,seqOf,wpIdx,wpSlc,wpBytes,wpLen,wpIndex,wpSetItem,wpSetAttr,wpAttr,initOf,methN,posOf,sizesL,kindsL,frees,putF,getN,zA,zB,zC,zD,zE,zF,zG,qA,qB,qC,qD,qE,qF,reduceCtorEq,↓reduceIte,qG,zH,zI,zJ,zK,zL,zM,zN,qH,qI,zO,zP,zQ,zR,qJ,zS,zT,Nat.reduceAdd,Nat.reduceLT,Int.reduceLT,Int.reduceLE,Int.reduceNeg,Int.reduceSub,Int.reduceMul,Int.reduceAdd,Int.reduceToNat,qO,qP,zU,zV,zW,zX,zY,zZ,aR1,aR2,aW1,aW2,aW3,aW4,aW5,aW6,aW7,aW8,aW9,aWa,aWb,qK,qL,qM,qN, e]
  exact ⟨by decide, by decide, q⟩
theorem c_put_packet (bs : Base w B) (tb : Tabs B) {d s tok key : List UInt8} {k m : Nat} {h : H} {Q : K1} (e : PkAt h k d s tok) (hd : d.length < 200) (hs : s.length < 200) (ht : tok.length < 64) (hm : 5 ≤ m)
    (q : ∀ h' (f1 : UInt8) (x : List UInt8), Fr [] h h' → 192 ≤ f1.toNat ∧ f1.toNat < 208 → x.length = 22 → Q (.bytes (f1 :: (headI d s tok ++ x))) h') : G w B m 443 [.obj k, .none, .bytes key] h Q := by
  refine fn_go bs tb (f_put_packet _) (by first | exact mm hm | exact m1 hm | decide | (first | lia | omega)) [some (.obj k), some .none, some (.bytes key), none, none, none] rfl rfl ?_
  simp only [b_put_packet, wpSs,↓xB,↓xG,↓vA,↓vC,↓vE,↓vF,↓vH,↓vS,↓vU,↓wG,wpEs,wpOr,wpAnd,↓tA,↓tD,wpIt,wpBin,cmpV,eqO,eqV,inV,seqOf,wpIdx,wpSlc,wpBytes,wpLen,wpIndex,wpSetItem,wpSetAttr,wpAttr,initOf,methN,posOf,sizesL,kindsL,frees,putF,getN,zA,zB,zC,zD,zE,zF,zG,qA,qB,qC,qD,qE,qF,reduceCtorEq,↓reduceIte,qG,zH,zI,zJ,zK,zL,zM,zN,qH,qI,zO,zP,zQ,zR,qJ,zS,zT,Nat.reduceAdd,Nat.reduceLT,Int.reduceLT,Int.reduceLE,Int.reduceNeg,Int.reduceSub,Int.reduceMul,Int.reduceAdd,Int.reduceToNat,qO,qP,zU,zV,zW,zX,zY,zZ,aR1,aR2,aW1,aW2,aW3,aW4,aW5,aW6,aW7,aW8,aW9,aWa,aWb,qK,qL,qM,qN]
  refine c_number_in bs tb e (by first | exact mm hm | exact m1 hm | decide | (first | lia | omega)) ?_
  simp only [tl_put_packet_1, wpSs,↓xB,↓xG,↓vA,↓vC,↓vE,↓vF,↓vH,↓vS,↓vU,↓wG,wpEs,wpOr,wpAnd,↓tA,↓tD,wpIt,wpBin,cmpV,eqO,eqV,inV,seqOf,wpIdx,wpSlc,wpBytes,wpLen,wpIndex,wpSetItem,wpSetAttr,wpAttr,initOf,methN,posOf,sizesL,kindsL,frees,putF,getN,zA,zB,zC,zD,zE,zF,zG,qA,qB,qC,qD,qE,qF,reduceCtorEq,↓reduceIte,qG,zH,zI,zJ,zK,zL,zM,zN,qH,qI,zO,zP,zQ,zR,qJ,zS,zT,Nat.reduceAdd,Nat.reduceLT,Int.reduceLT,Int.reduceLE,Int.reduceNeg,Int.reduceSub,Int.reduceMul,Int.reduceAdd,Int.reduceToNat,qO,qP,zU,zV,zW,zX,zY,zZ,aR1,aR2,aW1,aW2,aW3,aW4,aW5,aW6,aW7,aW8,aW9,aWa,aWb,qK,qL,qM,qN]
  refine c_cut_number bs tb (by first | exact mm hm | exact m1 hm | decide | (first | lia | omega)) fun h1 fr1 => ?_
  have e1 : PkAt h1 k d s tok := fr1.2 k _ e (by simp)
  have e1' := e1
  unfold PkAt at e1'
  simp only [tl_put_packet_2, wpSs,↓xB,↓xG,↓vA,↓vC,↓vE,↓vF,↓vH,↓vS,↓vU,↓wG,wpEs,wpOr,wpAnd,↓tA,↓tD,wpIt,wpBin,cmpV,eqO,eqV,inV,seqOf,wpIdx,wpSlc,wpBytes,wpLen,wpIndex,wpSetItem,wpSetAttr,wpAttr,initOf,methN,posOf,sizesL,kindsL,frees,putF,getN,zA,zB,zC,zD,zE,zF,zG,qA,qB,qC,qD,qE,qF,reduceCtorEq,↓reduceIte,qG,zH,zI,zJ,zK,zL,zM,zN,qH,qI,zO,zP,zQ,zR,qJ,zS,zT,Nat.reduceAdd,Nat.reduceLT,Int.reduceLT,Int.reduceLE,Int.reduceNeg,Int.reduceSub,Int.reduceMul,Int.reduceAdd,Int.reduceToNat,qO,qP,zU,zV,zW,zX,zY,zZ,aR1,aR2,aW1,aW2,aW3,aW4,aW5,aW6,aW7,aW8,aW9,aWa,aWb,qK,qL,qM,qN, e1']
  refine ⟨by decide, by decide, ?_⟩
  show G w B (m - 1) 338 [.bytes [104, 101, 108, 108, 111], .int 1] h1 _
  refine c_padded bs tb rfl (by first | exact mm hm | exact m1 hm | decide | (first | lia | omega)) ?_
  simp only [tl_put_packet_3, wpSs,↓xB,↓xG,↓vA,↓vC,↓vE,↓vF,↓vH,↓vS,↓vU,↓wG,wpEs,wpOr,wpAnd,↓tA,↓tD,wpIt,wpBin,cmpV,eqO,eqV,inV,seqOf,wpIdx,wpSlc,wpBytes,wpLen,wpIndex,wpSetItem,wpSetAttr,wpAttr,initOf,methN,posOf,sizesL,kindsL,frees,putF,getN,zA,zB,zC,zD,zE,zF,zG,qA,qB,qC,qD,qE,qF,reduceCtorEq,↓reduceIte,qG,zH,zI,zJ,zK,zL,zM,zN,qH,qI,zO,zP,zQ,zR,qJ,zS,zT,Nat.reduceAdd,Nat.reduceLT,Int.reduceLT,Int.reduceLE,Int.reduceNeg,Int.reduceSub,Int.reduceMul,Int.reduceAdd,Int.reduceToNat,qO,qP,zU,zV,zW,zX,zY,zZ,aR1,aR2,aW1,aW2,aW3,aW4,aW5,aW6,aW7,aW8,aW9,aWa,aWb,qK,qL,qM,qN]
  refine c_head_of bs tb e1 (by first | exact mm hm | exact m1 hm | decide | (first | lia | omega)) (by first | exact mm hm | exact m1 hm | decide | (first | lia | omega)) ht (by first | exact mm hm | exact m1 hm | decide | (first | lia | omega)) fun h2 fr2 => ?_
  exact c_protected bs tb (f0 := 192) (ht := headI d s tok) (n := 0) ⟨by decide, by decide⟩ (by simp [headI, beN_length, ids_length]; (first | lia | omega)) rfl rfl (by first | exact mm hm | exact m1 hm | decide | (first | lia | omega)) fun h3 f1 x fr3 hf hx => q h3 f1 x ((fr1.trans fr2).trans fr3) hf hx
theorem bytesOf_map (vs : List Nat) (f : Nat → List UInt8) : bytesOf (vs.map fun n => .bytes (f n)) = some (vs.map f) := by
  induction vs with
  | nil => rfl
  | cons n vs ih => rw [List.map_cons]; unfold bytesOf; rw [ih]; rfl
theorem flat_len (vs : List Nat) : (vs.map (beN 4)).flatten.length = 4 * vs.length := by
  induction vs with
  | nil => rfl
  | cons n vs ih => simp [beN_length, ih]; (first | lia | omega)
theorem c_put_negotiation (bs : Base w B) (tb : Tabs B) {d s : List UInt8} {vs : List Nat} {low k m : Nat} {h : H} {Q : K1} (e : h[k]? = some (.list (vs.map fun (n : Nat) => .int n))) (hv : ∀ v ∈ vs, v < 4294967296) (h2 : 2 ≤ vs.length) (h3 : vs.length ≤ 100)
    (hd : d.length < 200) (hs : s.length < 200) (hm : 2 ≤ m) (q : ∀ h', Fr [] h h' → Q (.bytes (negData low d s vs)) h') : G w B m 214 [.int low, .bytes d, .bytes s, .obj k] h Q := by
  refine fn_go bs tb (f_put_negotiation _) (by first | exact mm hm | exact m1 hm | decide | (first | lia | omega)) [some (.int low), some (.bytes d), some (.bytes s), some (.obj k), none] rfl rfl ?_
  simp only [b_put_negotiation, wpSs,↓xB,↓xG,↓vA,↓vC,↓vE,↓vF,↓vG,↓vH,↓vQ,↓vS,↓vV,↓wE,↓wK,wpEs,wpOr,wpAnd,↓tA,↓tD,wpIt,wpBin,cmpV,eqO,eqV,inV,seqOf,wpIdx,wpSlc,wpBytes,wpLen,wpIndex,wpSetItem,wpSetAttr,wpAttr,initOf,methN,posOf,sizesL,kindsL,frees,putF,getN,zA,zB,zC,zD,zE,zF,zG,qA,qB,qC,qD,qE,qF,reduceCtorEq,↓reduceIte,qG,zH,zI,zJ,zK,zL,zM,zN,qH,qI,zO,zP,zQ,zR,qJ,zS,zT,Nat.reduceAdd,Nat.reduceLT,Int.reduceLT,Int.reduceLE,Int.reduceNeg,Int.reduceSub,Int.reduceMul,Int.reduceAdd,Int.reduceToNat,qO,qP,zU,zV,zW,zX,zY,zZ,aR1,aR2,aW1,aW2,aW3,aW4,aW5,aW6,aW7,aW8,aW9,aWa,aWb,qK,qL,qM,qN, e]
  refine ⟨fun v => match v with | .int i => .bytes (beN 4 i.toNat) | _ => .none, ⟨by simp; (first | lia | omega), fun v hvm => ?_⟩, ?_⟩
  · obtain ⟨n, hn, rfl⟩ := List.mem_map.mp hvm
    exact c_put_whole_x bs tb (n := n) (size := 4) (hv n hn) (by first | exact mm hm | exact m1 hm | decide | (first | lia | omega)) (by first | exact mm hm | exact m1 hm | decide | (first | lia | omega)) ⟨rfl, rfl, _, rfl⟩
  · have e1 : ((128 : Int) + (low : Int) % 128) = ((128 + low % 128 : Nat) : Int) := by (first | lia | omega)
    simp only [tl_put_negotiation_1, wpSs,↓xB,↓xG,↓vA,↓vC,↓vE,↓vF,↓vG,↓vH,↓vQ,↓vS,↓vV,↓wE,↓wK,wpEs,wpOr,wpAnd,↓tA,↓tD,wpIt,wpBin,cmpV,eqO,eqV,inV,seqOf,wpIdx,wpSlc,wpBytes,wpLen,wpIndex,wpSetItem,wpSetAttr,wpAttr,initOf,methN,posOf,sizesL,kindsL,frees,putF,getN,zA,zB,zC,zD,zE,zF,zG,qA,qB,qC,qD,qE,qF,reduceCtorEq,↓reduceIte,qG,zH,zI,zJ,zK,zL,zM,zN,qH,qI,zO,zP,zQ,zR,qJ,zS,zT,Nat.reduceAdd,Nat.reduceLT,Int.reduceLT,Int.reduceLE,Int.reduceNeg,Int.reduceSub,Int.reduceMul,Int.reduceAdd,Int.reduceToNat,qO,qP,zU,zV,zW,zX,zY,zZ,aR1,aR2,aW1,aW2,aW3,aW4,aW5,aW6,aW7,aW8,aW9,aWa,aWb,qK,qL,qM,qN]
    rw [e1, octetsOf_one (by first | exact mm hm | exact m1 hm | decide | (first | lia | omega)), List.map_map]
    have e2 : ((fun v => match v with | V.int i => V.bytes (beN 4 i.toNat) | x => V.none) ∘ fun (n : Nat) => V.int (n : Int)) = fun (n : Nat) => V.bytes (beN 4 n) := rfl
    rw [e2]
    refine ⟨(by first | omega | decide | (simp; done) | (simp; omega)), c_put_whole bs tb (n := 0) (size := 4) (by decide) (by first | exact mm hm | exact m1 hm | decide | (first | lia | omega)) (by first | exact mm hm | exact m1 hm | decide | (first | lia | omega)) fun h1 fr1 => ?_⟩
    simp only [wpSs,↓xB,↓xG,↓vA,↓vC,↓vE,↓vF,↓vG,↓vH,↓vQ,↓vS,↓vV,↓wE,↓wK,wpEs,wpOr,wpAnd,↓tA,↓tD,wpIt,wpBin,cmpV,eqO,eqV,inV,seqOf,wpIdx,wpSlc,wpBytes,wpLen,wpIndex,wpSetItem,wpSetAttr,wpAttr,initOf,methN,posOf,sizesL,kindsL,frees,putF,getN,zA,zB,zC,zD,zE,zF,zG,qA,qB,qC,qD,qE,qF,reduceCtorEq,↓reduceIte,qG,zH,zI,zJ,zK,zL,zM,zN,qH,qI,zO,zP,zQ,zR,qJ,zS,zT,Nat.reduceAdd,Nat.reduceLT,Int.reduceLT,Int.reduceLE,Int.reduceNeg,Int.reduceSub,Int.reduceMul,Int.reduceAdd,Int.reduceToNat,qO,qP,zU,zV,zW,zX,zY,zZ,aR1,aR2,aW1,aW2,aW3,aW4,aW5,aW6,aW7,aW8,aW9,aWa,aWb,qK,qL,qM,qN]
    refine ⟨by simp [beN_length], c_put_ids bs tb (by first | exact mm hm | exact m1 hm | decide | (first | lia | omega)) (by first | exact mm hm | exact m1 hm | decide | (first | lia | omega)) (by first | exact mm hm | exact m1 hm | decide | (first | lia | omega)) fun h4 fr4 => ?_⟩
    have e3 : h4[h.length]? = some (.list (vs.map fun (n : Nat) => V.bytes (beN 4 n))) := fr4.2 _ _ (fr1.2 _ _ (get_last2 _ _ _) (by simp)) (by simp)
    simp only [wpSs,↓xB,↓xG,↓vA,↓vC,↓vE,↓vF,↓vG,↓vH,↓vQ,↓vS,↓vV,↓wE,↓wK,wpEs,wpOr,wpAnd,↓tA,↓tD,wpIt,wpBin,cmpV,eqO,eqV,inV,seqOf,wpIdx,wpSlc,wpBytes,wpLen,wpIndex,wpSetItem,wpSetAttr,wpAttr,initOf,methN,posOf,sizesL,kindsL,frees,putF,getN,zA,zB,zC,zD,zE,zF,zG,qA,qB,qC,qD,qE,qF,reduceCtorEq,↓reduceIte,qG,zH,zI,zJ,zK,zL,zM,zN,qH,qI,zO,zP,zQ,zR,qJ,zS,zT,Nat.reduceAdd,Nat.reduceLT,Int.reduceLT,Int.reduceLE,Int.reduceNeg,Int.reduceSub,Int.reduceMul,Int.reduceAdd,Int.reduceToNat,qO,qP,zU,zV,zW,zX,zY,zZ,aR1,aR2,aW1,aW2,aW3,aW4,aW5,aW6,aW7,aW8,aW9,aWa,aWb,qK,qL,qM,qN, e3, bytesOf_map, flat_len]
    refine ⟨by simp [beN_length, ids_length]; (first | lia | omega), ⟨by simpa using h2, by (first | lia | omega)⟩, by simp [beN_length, ids_length]; (first | lia | omega), ?_⟩
    exact Qb (b := negData low d s vs) (q _ ((((Fr.refl h).push _).push _).trans fr1 |>.trans fr4)) (by simp [negData])
theorem c_put_retry (bs : Base w B) (tb : Tabs B) {d s tok : List UInt8} {low m : Nat} {h : H} {Q : K1} (hd : d.length < 200) (hs : s.length < 200) (ht : tok.length < 500) (hm : 2 ≤ m)
    (q : ∀ h', Fr [] h h' → Q (.bytes (retryHead low d s tok)) h') : G w B m 221 [.int low, .int 1, .bytes d, .bytes s, .bytes tok, .bytes []] h Q := by
  refine fn_go bs tb (f_put_retry _) (by first | exact mm hm | exact m1 hm | decide | (first | lia | omega)) [some (.int low), some (.int 1), some (.bytes d), some (.bytes s), some (.bytes tok), some (.bytes []), none] rfl rfl ?_
  simp only [b_put_retry, tl_put_retry_1, wpSs,↓xB,↓xG,↓vC,↓vD,↓vE,↓vF,↓vH,↓vQ,↓vS,↓vV,wpEs,wpOr,wpAnd,↓tA,↓tD,wpIt,wpBin,cmpV,eqO,eqV,inV,seqOf,wpIdx,wpSlc,wpBytes,wpLen,wpIndex,wpSetItem,wpSetAttr,wpAttr,initOf,methN,posOf,sizesL,kindsL,frees,putF,getN,zA,zB,zC,zD,zE,zF,zG,qA,qB,qC,qD,qE,qF,reduceCtorEq,↓reduceIte,qG,zH,zI,zJ,zK,zL,zM,zN,qH,qI,zO,zP,zQ,zR,qJ,zS,zT,Nat.reduceAdd,Nat.reduceLT,Int.reduceLT,Int.reduceLE,Int.reduceNeg,Int.reduceSub,Int.reduceMul,Int.reduceAdd,Int.reduceToNat,qO,qP,zU,zV,zW,zX,zY,zZ,aR1,aR2,aW1,aW2,aW3,aW4,aW5,aW6,aW7,aW8,aW9,aWa,aWb,qK,qL,qM,qN]
  have e1 : ((low : Int) % 16) = ((low % 16 : Nat) : Int) := by (first | lia | omega)
  rw [e1]
  refine c_long_first_r bs tb (by first | exact mm hm | exact m1 hm | decide | (first | lia | omega)) ?_
  simp only [wpSs,↓xB,↓xG,↓vC,↓vD,↓vE,↓vF,↓vH,↓vQ,↓vS,↓vV,wpEs,wpOr,wpAnd,↓tA,↓tD,wpIt,wpBin,cmpV,eqO,eqV,inV,seqOf,wpIdx,wpSlc,wpBytes,wpLen,wpIndex,wpSetItem,wpSetAttr,wpAttr,initOf,methN,posOf,sizesL,kindsL,frees,putF,getN,zA,zB,zC,zD,zE,zF,zG,qA,qB,qC,qD,qE,qF,reduceCtorEq,↓reduceIte,qG,zH,zI,zJ,zK,zL,zM,zN,qH,qI,zO,zP,zQ,zR,qJ,zS,zT,Nat.reduceAdd,Nat.reduceLT,Int.reduceLT,Int.reduceLE,Int.reduceNeg,Int.reduceSub,Int.reduceMul,Int.reduceAdd,Int.reduceToNat,qO,qP,zU,zV,zW,zX,zY,zZ,aR1,aR2,aW1,aW2,aW3,aW4,aW5,aW6,aW7,aW8,aW9,aWa,aWb,qK,qL,qM,qN, octetsOf_one (show 240 + low % 16 < 256 by (first | lia | omega))]
  refine ⟨(by first | omega | decide | (simp; done) | (simp; omega)), c_put_whole bs tb (n := 1) (size := 4) (by decide) (by first | exact mm hm | exact m1 hm | decide | (first | lia | omega)) (by first | exact mm hm | exact m1 hm | decide | (first | lia | omega)) fun h1 fr1 => ?_⟩
  simp only [wpSs,↓xB,↓xG,↓vC,↓vD,↓vE,↓vF,↓vH,↓vQ,↓vS,↓vV,wpEs,wpOr,wpAnd,↓tA,↓tD,wpIt,wpBin,cmpV,eqO,eqV,inV,seqOf,wpIdx,wpSlc,wpBytes,wpLen,wpIndex,wpSetItem,wpSetAttr,wpAttr,initOf,methN,posOf,sizesL,kindsL,frees,putF,getN,zA,zB,zC,zD,zE,zF,zG,qA,qB,qC,qD,qE,qF,reduceCtorEq,↓reduceIte,qG,zH,zI,zJ,zK,zL,zM,zN,qH,qI,zO,zP,zQ,zR,qJ,zS,zT,Nat.reduceAdd,Nat.reduceLT,Int.reduceLT,Int.reduceLE,Int.reduceNeg,Int.reduceSub,Int.reduceMul,Int.reduceAdd,Int.reduceToNat,qO,qP,zU,zV,zW,zX,zY,zZ,aR1,aR2,aW1,aW2,aW3,aW4,aW5,aW6,aW7,aW8,aW9,aWa,aWb,qK,qL,qM,qN]
  refine ⟨by simp [beN_length], c_put_ids bs tb (by first | exact mm hm | exact m1 hm | decide | (first | lia | omega)) (by first | exact mm hm | exact m1 hm | decide | (first | lia | omega)) (by first | exact mm hm | exact m1 hm | decide | (first | lia | omega)) fun h2 fr2 => ?_⟩
  simp only [wpSs,↓xB,↓xG,↓vC,↓vD,↓vE,↓vF,↓vH,↓vQ,↓vS,↓vV,wpEs,wpOr,wpAnd,↓tA,↓tD,wpIt,wpBin,cmpV,eqO,eqV,inV,seqOf,wpIdx,wpSlc,wpBytes,wpLen,wpIndex,wpSetItem,wpSetAttr,wpAttr,initOf,methN,posOf,sizesL,kindsL,frees,putF,getN,zA,zB,zC,zD,zE,zF,zG,qA,qB,qC,qD,qE,qF,reduceCtorEq,↓reduceIte,qG,zH,zI,zJ,zK,zL,zM,zN,qH,qI,zO,zP,zQ,zR,qJ,zS,zT,Nat.reduceAdd,Nat.reduceLT,Int.reduceLT,Int.reduceLE,Int.reduceNeg,Int.reduceSub,Int.reduceMul,Int.reduceAdd,Int.reduceToNat,qO,qP,zU,zV,zW,zX,zY,zZ,aR1,aR2,aW1,aW2,aW3,aW4,aW5,aW6,aW7,aW8,aW9,aWa,aWb,qK,qL,qM,qN]
  refine ⟨by simp [beN_length, ids_length]; (first | lia | omega), by simp [beN_length, ids_length]; (first | lia | omega), by simp [beN_length, ids_length]; (first | lia | omega), ?_⟩
  exact Qb (b := retryHead low d s tok) (q _ ((((Fr.refl h).push _).trans fr1).trans fr2)) (by simp [retryHead])
theorem retryHead_length (low : Nat) (d s tok : List UInt8) : (retryHead low d s tok).length = 7 + d.length + s.length + tok.length := by simp [retryHead, beN_length, ids_length]; (first | lia | omega)
theorem c_retry_tag (bs : Base w B) (tb : Tabs B) {od head : List UInt8} {m : Nat} {h : H} {Q : K1} (ho : od.length ≤ 1000) (hh : head.length ≤ 1000) (hm : 3 ≤ m) (q : ∀ h', Fr [] h h' → Q (.bytes (tagOf rKey od.length od head)) h') :
    G w B m 373 [.bytes od, .bytes head] h Q := by
  refine fn_go bs tb (f_retry_tag _) (by first | exact mm hm | exact m1 hm | decide | (first | lia | omega)) [some (.bytes od), some (.bytes head)] rfl rfl ?_
  simp only [b_retry_tag, wpSs,↓xG,↓vE,↓vF,↓vG,↓vS,↓vU,wpEs,wpOr,wpAnd,↓tD,wpIt,wpBin,cmpV,eqO,eqV,inV,seqOf,wpIdx,wpSlc,wpBytes,wpLen,wpIndex,wpSetItem,wpSetAttr,wpAttr,initOf,methN,posOf,sizesL,kindsL,frees,putF,getN,zA,zB,zC,zD,zE,zF,zG,qA,qB,qC,qD,qE,qF,reduceCtorEq,↓reduceIte,qG,zH,zI,zJ,zK,zL,zM,zN,qH,qI,zO,zP,zQ,zR,qJ,zS,zT,Nat.reduceAdd,Nat.reduceLT,Int.reduceLT,Int.reduceLE,Int.reduceNeg,Int.reduceSub,Int.reduceMul,Int.reduceAdd,Int.reduceToNat,qO,qP,zU,zV,zW,zX,zY,zZ,aR1,aR2,aW1,aW2,aW3,aW4,aW5,aW6,aW7,aW8,aW9,aWa,aWb,qK,qL,qM,qN]
  exact c_tag_of bs tb ho hh (by first | exact mm hm | exact m1 hm | decide | (first | lia | omega)) q
theorem c_put_retry_packet (bs : Base w B) (tb : Tabs B) {d s tok od : List UInt8} {low m : Nat} {h : H} {Q : K1} (hd : d.length < 200) (hs : s.length < 200) (ht : tok.length < 500) (ho : od.length ≤ 1000) (hm : 4 ≤ m)
    (q : ∀ h', Fr [] h h' → Q (.bytes (retryData low d s tok od)) h') : G w B m 380 [.int low, .int 1, .bytes d, .bytes s, .bytes tok, .bytes od] h Q := by
  refine fn_go bs tb (f_put_retry_packet _) (by first | exact mm hm | exact m1 hm | decide | (first | lia | omega)) [some (.int low), some (.int 1), some (.bytes d), some (.bytes s), some (.bytes tok), some (.bytes od), none] rfl rfl ?_
  simp only [b_put_retry_packet, wpSs,↓xB,↓xG,↓vC,↓vE,↓vF,↓vH,↓vS,wpEs,wpOr,wpAnd,↓tA,↓tD,wpIt,wpBin,cmpV,eqO,eqV,inV,seqOf,wpIdx,wpSlc,wpBytes,wpLen,wpIndex,wpSetItem,wpSetAttr,wpAttr,initOf,methN,posOf,sizesL,kindsL,frees,putF,getN,zA,zB,zC,zD,zE,zF,zG,qA,qB,qC,qD,qE,qF,reduceCtorEq,↓reduceIte,qG,zH,zI,zJ,zK,zL,zM,zN,qH,qI,zO,zP,zQ,zR,qJ,zS,zT,Nat.reduceAdd,Nat.reduceLT,Int.reduceLT,Int.reduceLE,Int.reduceNeg,Int.reduceSub,Int.reduceMul,Int.reduceAdd,Int.reduceToNat,qO,qP,zU,zV,zW,zX,zY,zZ,aR1,aR2,aW1,aW2,aW3,aW4,aW5,aW6,aW7,aW8,aW9,aWa,aWb,qK,qL,qM,qN]
  refine c_put_retry bs tb hd hs ht (by first | exact mm hm | exact m1 hm | decide | (first | lia | omega)) fun h1 fr1 => ?_
  simp only [tl_put_retry_packet_1, wpSs,↓xB,↓xG,↓vC,↓vE,↓vF,↓vH,↓vS,wpEs,wpOr,wpAnd,↓tA,↓tD,wpIt,wpBin,cmpV,eqO,eqV,inV,seqOf,wpIdx,wpSlc,wpBytes,wpLen,wpIndex,wpSetItem,wpSetAttr,wpAttr,initOf,methN,posOf,sizesL,kindsL,frees,putF,getN,zA,zB,zC,zD,zE,zF,zG,qA,qB,qC,qD,qE,qF,reduceCtorEq,↓reduceIte,qG,zH,zI,zJ,zK,zL,zM,zN,qH,qI,zO,zP,zQ,zR,qJ,zS,zT,Nat.reduceAdd,Nat.reduceLT,Int.reduceLT,Int.reduceLE,Int.reduceNeg,Int.reduceSub,Int.reduceMul,Int.reduceAdd,Int.reduceToNat,qO,qP,zU,zV,zW,zX,zY,zZ,aR1,aR2,aW1,aW2,aW3,aW4,aW5,aW6,aW7,aW8,aW9,aWa,aWb,qK,qL,qM,qN]
  have hl := retryHead_length low d s tok
  refine c_retry_tag bs tb ho (by first | exact mm hm | exact m1 hm | decide | (first | lia | omega)) (by first | exact mm hm | exact m1 hm | decide | (first | lia | omega)) fun h2 fr2 => ?_
  simp only [wpSs,↓xB,↓xG,↓vC,↓vE,↓vF,↓vH,↓vS,wpEs,wpOr,wpAnd,↓tA,↓tD,wpIt,wpBin,cmpV,eqO,eqV,inV,seqOf,wpIdx,wpSlc,wpBytes,wpLen,wpIndex,wpSetItem,wpSetAttr,wpAttr,initOf,methN,posOf,sizesL,kindsL,frees,putF,getN,zA,zB,zC,zD,zE,zF,zG,qA,qB,qC,qD,qE,qF,reduceCtorEq,↓reduceIte,qG,zH,zI,zJ,zK,zL,zM,zN,qH,qI,zO,zP,zQ,zR,qJ,zS,zT,Nat.reduceAdd,Nat.reduceLT,Int.reduceLT,Int.reduceLE,Int.reduceNeg,Int.reduceSub,Int.reduceMul,Int.reduceAdd,Int.reduceToNat,qO,qP,zU,zV,zW,zX,zY,zZ,aR1,aR2,aW1,aW2,aW3,aW4,aW5,aW6,aW7,aW8,aW9,aWa,aWb,qK,qL,qM,qN, tagOf_length]
  exact ⟨by (first | lia | omega), q _ (fr1.trans fr2)⟩
theorem tokBody_length (od : List UInt8) (time : Nat) : (tokBody od time).length = 9 + od.length := by simp [tokBody, beN_length]; (first | lia | omega)
theorem c_token_for (bs : Base w B) (tb : Tabs B) {secret address od : List UInt8} {time m : Nat} {h : H} {Q : K1} (ht : time < 1000000) (ha : address.length ≤ 1000) (ho : od.length < 200) (hm : 3 ≤ m)
    (q : ∀ h', Fr [] h h' → Q (.bytes (tokenOf secret address od time)) h') : G w B m 394 [.bytes secret, .bytes address, .bytes od, .int time] h Q := by
  refine fn_go bs tb (f_token_for _) (by first | exact mm hm | exact m1 hm | decide | (first | lia | omega)) [some (.bytes secret), some (.bytes address), some (.bytes od), some (.int time), none] rfl rfl ?_
  simp only [b_token_for, wpSs,↓xB,↓xG,↓vC,↓vE,↓vF,↓vH,↓vQ,↓vS,↓vU,↓vV,wpEs,wpOr,wpAnd,↓tA,↓tD,wpIt,wpBin,cmpV,eqO,eqV,inV,seqOf,wpIdx,wpSlc,wpBytes,wpLen,wpIndex,wpSetItem,wpSetAttr,wpAttr,initOf,methN,posOf,sizesL,kindsL,frees,putF,getN,zA,zB,zC,zD,zE,zF,zG,qA,qB,qC,qD,qE,qF,reduceCtorEq,↓reduceIte,qG,zH,zI,zJ,zK,zL,zM,zN,qH,qI,zO,zP,zQ,zR,qJ,zS,zT,Nat.reduceAdd,Nat.reduceLT,Int.reduceLT,Int.reduceLE,Int.reduceNeg,Int.reduceSub,Int.reduceMul,Int.reduceAdd,Int.reduceToNat,qO,qP,zU,zV,zW,zX,zY,zZ,aR1,aR2,aW1,aW2,aW3,aW4,aW5,aW6,aW7,aW8,aW9,aWa,aWb,qK,qL,qM,qN]
  have e0 : (256 : Nat) ^ 8 = 18446744073709551616 := by decide
  refine c_put_whole bs tb (n := time) (size := 8) (by first | exact mm hm | exact m1 hm | decide | (first | lia | omega)) (by first | exact mm hm | exact m1 hm | decide | (first | lia | omega)) (by first | exact mm hm | exact m1 hm | decide | (first | lia | omega)) fun h1 fr1 => ?_
  simp only [wpSs,↓xB,↓xG,↓vC,↓vE,↓vF,↓vH,↓vQ,↓vS,↓vU,↓vV,wpEs,wpOr,wpAnd,↓tA,↓tD,wpIt,wpBin,cmpV,eqO,eqV,inV,seqOf,wpIdx,wpSlc,wpBytes,wpLen,wpIndex,wpSetItem,wpSetAttr,wpAttr,initOf,methN,posOf,sizesL,kindsL,frees,putF,getN,zA,zB,zC,zD,zE,zF,zG,qA,qB,qC,qD,qE,qF,reduceCtorEq,↓reduceIte,qG,zH,zI,zJ,zK,zL,zM,zN,qH,qI,zO,zP,zQ,zR,qJ,zS,zT,Nat.reduceAdd,Nat.reduceLT,Int.reduceLT,Int.reduceLE,Int.reduceNeg,Int.reduceSub,Int.reduceMul,Int.reduceAdd,Int.reduceToNat,qO,qP,zU,zV,zW,zX,zY,zZ,aR1,aR2,aW1,aW2,aW3,aW4,aW5,aW6,aW7,aW8,aW9,aWa,aWb,qK,qL,qM,qN, octetsOf_one (show od.length < 256 by (first | lia | omega))]
  have hl := tokBody_length od time
  have e1 : beN 8 time ++ [od.length.toUInt8] ++ od = tokBody od time := by simp [tokBody]
  refine ⟨(by first | omega | decide | (simp; done) | (simp; omega)), by simp [beN_length], by simp [beN_length]; (first | lia | omega), ?_⟩
  rw [e1]
  simp only [tl_token_for_1, wpSs,↓xB,↓xG,↓vC,↓vE,↓vF,↓vH,↓vQ,↓vS,↓vU,↓vV,wpEs,wpOr,wpAnd,↓tA,↓tD,wpIt,wpBin,cmpV,eqO,eqV,inV,seqOf,wpIdx,wpSlc,wpBytes,wpLen,wpIndex,wpSetItem,wpSetAttr,wpAttr,initOf,methN,posOf,sizesL,kindsL,frees,putF,getN,zA,zB,zC,zD,zE,zF,zG,qA,qB,qC,qD,qE,qF,reduceCtorEq,↓reduceIte,qG,zH,zI,zJ,zK,zL,zM,zN,qH,qI,zO,zP,zQ,zR,qJ,zS,zT,Nat.reduceAdd,Nat.reduceLT,Int.reduceLT,Int.reduceLE,Int.reduceNeg,Int.reduceSub,Int.reduceMul,Int.reduceAdd,Int.reduceToNat,qO,qP,zU,zV,zW,zX,zY,zZ,aR1,aR2,aW1,aW2,aW3,aW4,aW5,aW6,aW7,aW8,aW9,aWa,aWb,qK,qL,qM,qN]
  refine c_tag_of bs tb ha (by first | exact mm hm | exact m1 hm | decide | (first | lia | omega)) (by first | exact mm hm | exact m1 hm | decide | (first | lia | omega)) fun h2 fr2 => ?_
  simp only [wpSs,↓xB,↓xG,↓vC,↓vE,↓vF,↓vH,↓vQ,↓vS,↓vU,↓vV,wpEs,wpOr,wpAnd,↓tA,↓tD,wpIt,wpBin,cmpV,eqO,eqV,inV,seqOf,wpIdx,wpSlc,wpBytes,wpLen,wpIndex,wpSetItem,wpSetAttr,wpAttr,initOf,methN,posOf,sizesL,kindsL,frees,putF,getN,zA,zB,zC,zD,zE,zF,zG,qA,qB,qC,qD,qE,qF,reduceCtorEq,↓reduceIte,qG,zH,zI,zJ,zK,zL,zM,zN,qH,qI,zO,zP,zQ,zR,qJ,zS,zT,Nat.reduceAdd,Nat.reduceLT,Int.reduceLT,Int.reduceLE,Int.reduceNeg,Int.reduceSub,Int.reduceMul,Int.reduceAdd,Int.reduceToNat,qO,qP,zU,zV,zW,zX,zY,zZ,aR1,aR2,aW1,aW2,aW3,aW4,aW5,aW6,aW7,aW8,aW9,aWa,aWb,qK,qL,qM,qN, tagOf_length]
  exact ⟨by (first | lia | omega), q _ ((fr1.push _).trans fr2)⟩
end
end Mine
end
section
set_option maxRecDepth 100000
set_option maxHeartbeats 2000000
set_option backward.match.sparseCases false
set_option linter.all false
namespace Mine
open PySem PySem.W
theorem Fr.drop {S : List Nat} {h h₁ h₂ : H} (x : Fr [] h h₁) (y : Fr S h₁ h₂) (hS : ∀ k ∈ S, h.length ≤ k) : Fr [] h h₂ :=
  ⟨Nat.le_trans x.1 y.1, fun k o e _ => y.2 k o (x.2 k o e (by simp)) fun m => by have := hS k m; have := lt_of e; (first | lia | omega)⟩
theorem Fr.dropS {S S' : List Nat} {h h₁ h₂ : H} (x : Fr S h h₁) (y : Fr S' h₁ h₂) (hS : ∀ k ∈ S', k ∈ S ∨ h.length ≤ k) : Fr S h h₂ :=
  ⟨Nat.le_trans x.1 y.1, fun k o e n => y.2 k o (x.2 k o e n) fun m => by
    rcases hS k m with h1 | h1
    · exact n h1
    · have := lt_of e; (first | lia | omega)⟩
theorem Fr.setS {S : List Nat} {h h₁ : H} (x : Fr S h h₁) {k : Nat} (hk : k ∈ S ∨ h.length ≤ k) (o : O) : Fr S h (h₁.set k o) := by
  rcases hk with hk | hk
  · exact x.setIn hk o
  · exact x.setNew hk o
noncomputable def rawF (k f ver d s t g vs st na en : V) : List (N × V) := [(.kind, k), (.first, f), (.version, ver), (.dcid, d), (.scid, s), (.token, t), (.tag, g), (.versions, vs), (.start, st), (.number_at, na), (.end_, en)]
section
variable (k f ver d s t g vs st na en x : V)
theorem ggA : getN .kind (rawF k f ver d s t g vs st na en) = some k := rfl
theorem ssA : putF .kind x (rawF k f ver d s t g vs st na en) = rawF x f ver d s t g vs st na en := rfl
theorem ggB : getN .first (rawF k f ver d s t g vs st na en) = some f := rfl
theorem ssB : putF .first x (rawF k f ver d s t g vs st na en) = rawF k x ver d s t g vs st na en := rfl
theorem ggC : getN .version (rawF k f ver d s t g vs st na en) = some ver := rfl
theorem ssC : putF .version x (rawF k f ver d s t g vs st na en) = rawF k f x d s t g vs st na en := rfl
theorem ggD : getN .dcid (rawF k f ver d s t g vs st na en) = some d := rfl
theorem ssD : putF .dcid x (rawF k f ver d s t g vs st na en) = rawF k f ver x s t g vs st na en := rfl
theorem ggE : getN .scid (rawF k f ver d s t g vs st na en) = some s := rfl
theorem ssE : putF .scid x (rawF k f ver d s t g vs st na en) = rawF k f ver d x t g vs st na en := rfl
theorem ggF : getN .token (rawF k f ver d s t g vs st na en) = some t := rfl
theorem ssF : putF .token x (rawF k f ver d s t g vs st na en) = rawF k f ver d s x g vs st na en := rfl
theorem ggG : getN .tag (rawF k f ver d s t g vs st na en) = some g := rfl
theorem ssG : putF .tag x (rawF k f ver d s t g vs st na en) = rawF k f ver d s t x vs st na en := rfl
theorem ggH : getN .versions (rawF k f ver d s t g vs st na en) = some vs := rfl
theorem ssH : putF .versions x (rawF k f ver d s t g vs st na en) = rawF k f ver d s t g x st na en := rfl
theorem ggI : getN .start (rawF k f ver d s t g vs st na en) = some st := rfl
theorem ssI : putF .start x (rawF k f ver d s t g vs st na en) = rawF k f ver d s t g vs x na en := rfl
theorem ggJ : getN .number_at (rawF k f ver d s t g vs st na en) = some na := rfl
theorem ssJ : putF .number_at x (rawF k f ver d s t g vs st na en) = rawF k f ver d s t g vs st x en := rfl
theorem ggK : getN .end_ (rawF k f ver d s t g vs st na en) = some en := rfl
theorem ssK : putF .end_ x (rawF k f ver d s t g vs st na en) = rawF k f ver d s t g vs st na x := rfl
theorem pA {x : V} : putF .kind x [] = [(.kind, x)] := rfl
theorem pB {k x : V} : putF .first x [(.kind, k)] = [(.kind, k), (.first, x)] := rfl
theorem pC {k f x : V} : putF .version x [(.kind, k), (.first, f)] = [(.kind, k), (.first, f), (.version, x)] := rfl
theorem pD {k f ver x : V} : putF .dcid x [(.kind, k), (.first, f), (.version, ver)] = [(.kind, k), (.first, f), (.version, ver), (.dcid, x)] := rfl
theorem pE {k f ver d x : V} : putF .scid x [(.kind, k), (.first, f), (.version, ver), (.dcid, d)] = [(.kind, k), (.first, f), (.version, ver), (.dcid, d), (.scid, x)] := rfl
theorem pF {k f ver d s x : V} : putF .token x [(.kind, k), (.first, f), (.version, ver), (.dcid, d), (.scid, s)] = [(.kind, k), (.first, f), (.version, ver), (.dcid, d), (.scid, s), (.token, x)] := rfl
theorem pG {k f ver d s t x : V} : putF .tag x [(.kind, k), (.first, f), (.version, ver), (.dcid, d), (.scid, s), (.token, t)] = [(.kind, k), (.first, f), (.version, ver), (.dcid, d), (.scid, s), (.token, t), (.tag, x)] := rfl
theorem pH {k f ver d s t g x : V} : putF .versions x [(.kind, k), (.first, f), (.version, ver), (.dcid, d), (.scid, s), (.token, t), (.tag, g)] = [(.kind, k), (.first, f), (.version, ver), (.dcid, d), (.scid, s), (.token, t), (.tag, g), (.versions, x)] := rfl
theorem pI {k f ver d s t g vw x : V} : putF .start x [(.kind, k), (.first, f), (.version, ver), (.dcid, d), (.scid, s), (.token, t), (.tag, g), (.versions, vw)] = [(.kind, k), (.first, f), (.version, ver), (.dcid, d), (.scid, s), (.token, t), (.tag, g), (.versions, vw), (.start, x)] := rfl
theorem pJ {k f ver d s t g vw st x : V} : putF .number_at x [(.kind, k), (.first, f), (.version, ver), (.dcid, d), (.scid, s), (.token, t), (.tag, g), (.versions, vw), (.start, st)] = [(.kind, k), (.first, f), (.version, ver), (.dcid, d), (.scid, s), (.token, t), (.tag, g), (.versions, vw), (.start, st), (.number_at, x)] := rfl
theorem pK {k f ver d s t g vw st na x : V} : putF .end_ x [(.kind, k), (.first, f), (.version, ver), (.dcid, d), (.scid, s), (.token, t), (.tag, g), (.versions, vw), (.start, st), (.number_at, na)] = [(.kind, k), (.first, f), (.version, ver), (.dcid, d), (.scid, s), (.token, t), (.tag, g), (.versions, vw), (.start, st), (.number_at, na), (.end_, x)] := rfl
theorem rawF_len : (rawF k f ver d s t g vs st na en).length = 11 := rfl
end
section
variable {w : World} {B : Heap}
theorem c_raw_init (bs : Base w B) (tb : Tabs B) {k m : Nat} {n : N} {f st : Int} {d : List UInt8} {h : H} {Q : K1} (e : h[k]? = some (.inst .raw [])) (hm : 1 ≤ m)
    (q : ∀ h' kv, Fr [k] h h' → h'[k]? = some (.inst .raw (rawF (.str n) (.int f) (.int 0) (.bytes d) (.bytes []) (.bytes []) (.bytes []) (.obj kv) (.int st) (.int st) (.int st))) → Q .none h') : G w B m 181 [.obj k, .str n, .int f, .bytes d, .int st] h Q := by
  refine fn_go bs tb (f_RawPacket_init _) (by first | exact mm hm | exact m1 hm | decide | (first | lia | omega)) [some (.obj k), some (.str n), some (.int f), some (.bytes d), some (.int st)] rfl rfl ?_
  have hk := lt_of e
  have e2 : ∀ o, (h.set k o)[k]? = some o := fun o => get_set hk
  have e3 : ∀ o x o', ((h.set k o ++ [x]).set k o')[k]? = some o' := fun o x o' => get_set (by simp; (first | lia | omega))
  have e4 : ∀ o x, (h.set k o ++ [x])[k]? = some o := fun o x => by rw [List.getElem?_append_left (by simpa using hk)]; exact e2 o
  simp only [b_RawPacket_init, wpSs,↓xB,↓vA,↓vC,↓vD,↓vE,↓vF,↓vG,↓vQ,↓wF,wpEs,wpOr,wpAnd,↓tA,↓tD,↓tE,wpIt,wpBin,cmpV,eqO,eqV,inV,seqOf,wpIdx,wpSlc,wpBytes,wpLen,wpIndex,wpSetItem,wpSetAttr,wpAttr,initOf,methN,posOf,sizesL,kindsL,frees,getN,zA,zB,zC,zD,zE,zF,zG,qA,qB,qC,qD,qE,qF,reduceCtorEq,↓reduceIte,qG,zH,zI,zJ,zK,zL,zM,zN,qH,qI,zO,zP,zQ,zR,qJ,zS,zT,Nat.reduceAdd,Nat.reduceLT,Int.reduceLT,Int.reduceLE,Int.reduceNeg,Int.reduceSub,Int.reduceMul,Int.reduceAdd,Int.reduceToNat,qO,qP,zU,zV,zW,zX,zY,zZ,aR1,aR2,aW1,aW2,aW3,aW4,aW5,aW6,aW7,aW8,aW9,aWa,aWb,qK,qL,qM,qN,ggA,ssA,ggB,ssB,ggC,ssC,ggD,ssD,ggE,ssE,ggF,ssF,ggG,ssG,ggH,ssH,ggI,ssI,ggJ,ssJ,ggK,ssK,rawF_len, pA, pB, pC, pD, pE, pF, pG, pH, pI, pJ, pK, e, e2, e3, e4, List.set_set]
  have fr : ∀ o x o', Fr [k] h ((h.set k o ++ [x]).set k o') := fun o x o' => (((Fr.refl h).setIn (by simp) _).push _).setIn (by simp) _
  exact q _ _ (fr _ _ _) (e3 _ _ _)
theorem c_read_invariants (bs : Base w B) (tb : Tabs B) {f ld ls : UInt8} {v4 d s r : List UInt8} {m : Nat} {h : H} {Q : K1} (hv : v4.length = 4) (hd : ld.toNat = d.length) (hs : ls.toNat = s.length) (hm : 3 ≤ m) {D : List UInt8} (hD : D = f :: (v4 ++ (ld :: (d ++ (ls :: (s ++ r))))))
    (q : ∀ h' k, Fr [] h h' → h'[k]? = some (.tup [.int f.toNat, .int (ofBe v4), .bytes d, .bytes s, .int ((D.length - r.length : Nat) : Int)]) → Q (.obj k) h') : G w B m 228 [.bytes D, .int 0] h Q := by
  refine fn_go bs tb (f_read_invariants _) (by first | exact mm hm | exact m1 hm | decide | (first | lia | omega)) [some (.bytes D), some (.int 0), none, none, none, none, none] rfl rfl ?_
  simp only [b_read_invariants, wpSs,↓xB,↓xG,↓vC,↓vE,↓vF,↓vP,↓vT,↓vZ,↓wF,wpEs,wpOr,wpAnd,↓tA,↓tB,↓tC,↓tD,↓tE,↓yA,↓yB,wpIt,wpBin,cmpV,eqO,eqV,inV,seqOf,wpIdx,wpSlc,wpBytes,wpLen,wpIndex,wpSetItem,wpSetAttr,wpAttr,initOf,methN,posOf,sizesL,kindsL,frees,putF,getN,zA,zB,zC,zD,zE,zF,zG,qA,qB,qC,qD,qE,qF,reduceCtorEq,↓reduceIte,qG,zH,zI,zJ,zK,zL,zM,zN,qH,qI,zO,zP,zQ,zR,qJ,zS,zT,Nat.reduceAdd,Nat.reduceLT,Int.reduceLT,Int.reduceLE,Int.reduceNeg,Int.reduceSub,Int.reduceMul,Int.reduceAdd,Int.reduceToNat,qO,qP,zU,zV,zW,zX,zY,zZ,aR1,aR2,aW1,aW2,aW3,aW4,aW5,aW6,aW7,aW8,aW9,aWa,aWb,qK,qL,qM,qN,ggA,ssA,ggB,ssB,ggC,ssC,ggD,ssD,ggE,ssE,ggF,ssF,ggG,ssG,ggH,ssH,ggI,ssI,ggJ,ssJ,ggK,ssK,rawF_len]
  refine c_reader_init bs tb (get_last _ _) (by first | exact mm hm | exact m1 hm | decide | (first | lia | omega)) fun h1 fr1 rd1 => ?_
  have f1 : Fr [] h h1 := (Fr.app h _).drop fr1 (by simp)
  unfold RdAt at rd1
  have hk1 := lt_of rd1
  simp only [tl_read_invariants_1, wpSs,↓xB,↓xG,↓vC,↓vE,↓vF,↓vP,↓vT,↓vZ,↓wF,wpEs,wpOr,wpAnd,↓tA,↓tB,↓tC,↓tD,↓tE,↓yA,↓yB,wpIt,wpBin,cmpV,eqO,eqV,inV,seqOf,wpIdx,wpSlc,wpBytes,wpLen,wpIndex,wpSetItem,wpSetAttr,wpAttr,initOf,methN,posOf,sizesL,kindsL,frees,putF,getN,zA,zB,zC,zD,zE,zF,zG,qA,qB,qC,qD,qE,qF,reduceCtorEq,↓reduceIte,qG,zH,zI,zJ,zK,zL,zM,zN,qH,qI,zO,zP,zQ,zR,qJ,zS,zT,Nat.reduceAdd,Nat.reduceLT,Int.reduceLT,Int.reduceLE,Int.reduceNeg,Int.reduceSub,Int.reduceMul,Int.reduceAdd,Int.reduceToNat,qO,qP,zU,zV,zW,zX,zY,zZ,aR1,aR2,aW1,aW2,aW3,aW4,aW5,aW6,aW7,aW8,aW9,aWa,aWb,qK,qL,qM,qN,ggA,ssA,ggB,ssB,ggC,ssC,ggD,ssD,ggE,ssE,ggF,ssF,ggG,ssG,ggH,ssH,ggI,ssI,ggJ,ssJ,ggK,ssK,rawF_len, rd1]
  have rd2 : RdS (h1.set h.length (O.inst C.reader [(N.data, V.bytes D), (N.at_, V.int 0)])) h.length D ([f] ++ (v4 ++ (ld :: (d ++ (ls :: (s ++ r)))))) := ⟨[], hD, by unfold RdAt; rw [get_set hk1]; rfl⟩
  have e2 : (h1.set h.length (O.inst C.reader [(N.data, V.bytes D), (N.at_, V.int 0)]))[h.length]? = some (O.inst C.reader [(N.data, V.bytes D), (N.at_, V.int 0)]) := get_set hk1
  have f2 : Fr [] h (h1.set h.length (O.inst C.reader [(N.data, V.bytes D), (N.at_, V.int 0)])) := f1.setNew (Nat.le_refl _) _
  simp only [wpSs,↓xB,↓xG,↓vC,↓vE,↓vF,↓vP,↓vT,↓vZ,↓wF,wpEs,wpOr,wpAnd,↓tA,↓tB,↓tC,↓tD,↓tE,↓yA,↓yB,wpIt,wpBin,cmpV,eqO,eqV,inV,seqOf,wpIdx,wpSlc,wpBytes,wpLen,wpIndex,wpSetItem,wpSetAttr,wpAttr,initOf,methN,posOf,sizesL,kindsL,frees,putF,getN,zA,zB,zC,zD,zE,zF,zG,qA,qB,qC,qD,qE,qF,reduceCtorEq,↓reduceIte,qG,zH,zI,zJ,zK,zL,zM,zN,qH,qI,zO,zP,zQ,zR,qJ,zS,zT,Nat.reduceAdd,Nat.reduceLT,Int.reduceLT,Int.reduceLE,Int.reduceNeg,Int.reduceSub,Int.reduceMul,Int.reduceAdd,Int.reduceToNat,qO,qP,zU,zV,zW,zX,zY,zZ,aR1,aR2,aW1,aW2,aW3,aW4,aW5,aW6,aW7,aW8,aW9,aWa,aWb,qK,qL,qM,qN,ggA,ssA,ggB,ssB,ggC,ssC,ggD,ssD,ggE,ssE,ggF,ssF,ggG,ssG,ggH,ssH,ggI,ssI,ggJ,ssJ,ggK,ssK,rawF_len, e2]
  refine c_whole bs tb rd2 (by simp) (by first | exact mm hm | exact m1 hm | decide | (first | lia | omega)) fun h3 fr3 rd3 => ?_
  have f3 := f2.drop fr3 (by simp)
  obtain ⟨p3, hp3, r3⟩ := id rd3
  unfold RdAt at r3
  simp only [wpSs,↓xB,↓xG,↓vC,↓vE,↓vF,↓vP,↓vT,↓vZ,↓wF,wpEs,wpOr,wpAnd,↓tA,↓tB,↓tC,↓tD,↓tE,↓yA,↓yB,wpIt,wpBin,cmpV,eqO,eqV,inV,seqOf,wpIdx,wpSlc,wpBytes,wpLen,wpIndex,wpSetItem,wpSetAttr,wpAttr,initOf,methN,posOf,sizesL,kindsL,frees,putF,getN,zA,zB,zC,zD,zE,zF,zG,qA,qB,qC,qD,qE,qF,reduceCtorEq,↓reduceIte,qG,zH,zI,zJ,zK,zL,zM,zN,qH,qI,zO,zP,zQ,zR,qJ,zS,zT,Nat.reduceAdd,Nat.reduceLT,Int.reduceLT,Int.reduceLE,Int.reduceNeg,Int.reduceSub,Int.reduceMul,Int.reduceAdd,Int.reduceToNat,qO,qP,zU,zV,zW,zX,zY,zZ,aR1,aR2,aW1,aW2,aW3,aW4,aW5,aW6,aW7,aW8,aW9,aWa,aWb,qK,qL,qM,qN,ggA,ssA,ggB,ssB,ggC,ssC,ggD,ssD,ggE,ssE,ggF,ssF,ggG,ssG,ggH,ssH,ggI,ssI,ggJ,ssJ,ggK,ssK,rawF_len, r3]
  refine c_whole bs tb rd3 (by first | exact mm hm | exact m1 hm | decide | (first | lia | omega)) (by first | exact mm hm | exact m1 hm | decide | (first | lia | omega)) fun h4 fr4 rd4 => ?_
  have f4 := f3.drop fr4 (by simp)
  have rd5 : RdS (h4 ++ [O.tup [V.int ↑(ofBe [f]), V.int ↑(ofBe v4)]]) h.length D ([ld] ++ (d ++ (ls :: (s ++ r)))) := by
    obtain ⟨p4, hp4, r4⟩ := rd4
    exact ⟨p4, hp4, by unfold RdAt at r4 ⊢; rw [List.getElem?_append_left (lt_of r4)]; exact r4⟩
  have f5 := f4.push (O.tup [V.int ↑(ofBe [f]), V.int ↑(ofBe v4)])
  obtain ⟨p5, hp5, r5⟩ := id rd5
  unfold RdAt at r5
  simp only [tl_read_invariants_3, wpSs,↓xB,↓xG,↓vC,↓vE,↓vF,↓vP,↓vT,↓vZ,↓wF,wpEs,wpOr,wpAnd,↓tA,↓tB,↓tC,↓tD,↓tE,↓yA,↓yB,wpIt,wpBin,cmpV,eqO,eqV,inV,seqOf,wpIdx,wpSlc,wpBytes,wpLen,wpIndex,wpSetItem,wpSetAttr,wpAttr,initOf,methN,posOf,sizesL,kindsL,frees,putF,getN,zA,zB,zC,zD,zE,zF,zG,qA,qB,qC,qD,qE,qF,reduceCtorEq,↓reduceIte,qG,zH,zI,zJ,zK,zL,zM,zN,qH,qI,zO,zP,zQ,zR,qJ,zS,zT,Nat.reduceAdd,Nat.reduceLT,Int.reduceLT,Int.reduceLE,Int.reduceNeg,Int.reduceSub,Int.reduceMul,Int.reduceAdd,Int.reduceToNat,qO,qP,zU,zV,zW,zX,zY,zZ,aR1,aR2,aW1,aW2,aW3,aW4,aW5,aW6,aW7,aW8,aW9,aWa,aWb,qK,qL,qM,qN,ggA,ssA,ggB,ssB,ggC,ssC,ggD,ssD,ggE,ssE,ggF,ssF,ggG,ssG,ggH,ssH,ggI,ssI,ggJ,ssJ,ggK,ssK,rawF_len, r5]
  refine c_whole bs tb rd5 (by simp) (by first | exact mm hm | exact m1 hm | decide | (first | lia | omega)) fun h6 fr6 rd6 => ?_
  have f6 := f5.drop fr6 (by simp)
  have eb : ∀ u : UInt8, ofBe [u] = u.toNat := fun u => by simp [ofBe]
  rw [eb]
  refine c_take bs tb rd6 hd.symm (by first | exact mm hm | exact m1 hm | decide | (first | lia | omega)) fun h7 fr7 rd7 => ?_
  have f7 := f6.drop fr7 (by simp)
  obtain ⟨p7, hp7, r7⟩ := id rd7
  unfold RdAt at r7
  simp only [tl_read_invariants_4, wpSs,↓xB,↓xG,↓vC,↓vE,↓vF,↓vP,↓vT,↓vZ,↓wF,wpEs,wpOr,wpAnd,↓tA,↓tB,↓tC,↓tD,↓tE,↓yA,↓yB,wpIt,wpBin,cmpV,eqO,eqV,inV,seqOf,wpIdx,wpSlc,wpBytes,wpLen,wpIndex,wpSetItem,wpSetAttr,wpAttr,initOf,methN,posOf,sizesL,kindsL,frees,putF,getN,zA,zB,zC,zD,zE,zF,zG,qA,qB,qC,qD,qE,qF,reduceCtorEq,↓reduceIte,qG,zH,zI,zJ,zK,zL,zM,zN,qH,qI,zO,zP,zQ,zR,qJ,zS,zT,Nat.reduceAdd,Nat.reduceLT,Int.reduceLT,Int.reduceLE,Int.reduceNeg,Int.reduceSub,Int.reduceMul,Int.reduceAdd,Int.reduceToNat,qO,qP,zU,zV,zW,zX,zY,zZ,aR1,aR2,aW1,aW2,aW3,aW4,aW5,aW6,aW7,aW8,aW9,aWa,aWb,qK,qL,qM,qN,ggA,ssA,ggB,ssB,ggC,ssC,ggD,ssD,ggE,ssE,ggF,ssF,ggG,ssG,ggH,ssH,ggI,ssI,ggJ,ssJ,ggK,ssK,rawF_len, r7]
  refine c_whole bs tb (x := [ls]) rd7 (by simp) (by first | exact mm hm | exact m1 hm | decide | (first | lia | omega)) fun h8 fr8 rd8 => ?_
  have f8 := f7.drop fr8 (by simp)
  rw [eb]
  refine c_take bs tb rd8 hs.symm (by first | exact mm hm | exact m1 hm | decide | (first | lia | omega)) fun h9 fr9 rd9 => ?_
  have f9 := f8.drop fr9 (by simp)
  obtain ⟨p9, hp9, r9⟩ := id rd9
  unfold RdAt at r9
  simp only [tl_read_invariants_5, wpSs,↓xB,↓xG,↓vC,↓vE,↓vF,↓vP,↓vT,↓vZ,↓wF,wpEs,wpOr,wpAnd,↓tA,↓tB,↓tC,↓tD,↓tE,↓yA,↓yB,wpIt,wpBin,cmpV,eqO,eqV,inV,seqOf,wpIdx,wpSlc,wpBytes,wpLen,wpIndex,wpSetItem,wpSetAttr,wpAttr,initOf,methN,posOf,sizesL,kindsL,frees,putF,getN,zA,zB,zC,zD,zE,zF,zG,qA,qB,qC,qD,qE,qF,reduceCtorEq,↓reduceIte,qG,zH,zI,zJ,zK,zL,zM,zN,qH,qI,zO,zP,zQ,zR,qJ,zS,zT,Nat.reduceAdd,Nat.reduceLT,Int.reduceLT,Int.reduceLE,Int.reduceNeg,Int.reduceSub,Int.reduceMul,Int.reduceAdd,Int.reduceToNat,qO,qP,zU,zV,zW,zX,zY,zZ,aR1,aR2,aW1,aW2,aW3,aW4,aW5,aW6,aW7,aW8,aW9,aWa,aWb,qK,qL,qM,qN,ggA,ssA,ggB,ssB,ggC,ssC,ggD,ssD,ggE,ssE,ggF,ssF,ggG,ssG,ggH,ssH,ggI,ssI,ggJ,ssJ,ggK,ssK,rawF_len, r9, eb]
  refine q _ _ (f9.push _) ?_
  rw [get_last, hp9]
  simp
/-- numbers of four octets, laid one behind the other -/
theorem ver_loop (bs : Base w B) (tb : Tabs B) {D : List UInt8} {k kf m : Nat} {a : Int} {Q : K2} {h0 : H} (hk : k ≠ kf) (hkk : h0.length ≤ k ∧ h0.length ≤ kf) (hm : 2 ≤ m) (vs : List (List UInt8)) (h : H) (hf : Fr [] h0 h) (hv : ∀ v ∈ vs, v.length = 4) (hl : vs.length ≤ 500) (rd : RdS h k D vs.flatten) (e : h[kf]? = some (.list []))
    (q : ∀ h', Fr [] h0 h' → h'[kf]? = some (.list (vs.map fun v => .int (ofBe v))) → Q .next [some (.bytes D), some (.int a), some (.obj k), some (.obj kf)] h') :
    wpS (G w B m) (.while (.cmp .Gt (.meth (.loc 2) 131 .nil) (.int 0)) lb_read_versions_0) [some (.bytes D), some (.int a), some (.obj k), some (.obj kf)] h Q := by
  dsimp only [xE]
  refine ⟨fun n l h' => ∃ don rest, don ++ rest = vs ∧ n = rest.length ∧ l = [some (.bytes D), some (.int a), some (.obj k), some (.obj kf)] ∧ Fr [] h0 h' ∧ RdS h' k D rest.flatten ∧ h'[kf]? = some (.list (don.map fun v => .int (ofBe v))), ⟨vs.length, [], vs, rfl, rfl, rfl, hf, rd, e⟩, ?_⟩
  rintro n l h1 ⟨don, rest, hdr, rfl, rfl, hf1, rd1, e1⟩
  obtain ⟨p, hp, r1⟩ := id rd1
  unfold RdAt at r1
  simp only [wpSs,↓xA,↓xB,↓xD,↓xE,↓xG,↓xJ,↓vC,↓vE,↓vF,↓vH,↓vL,↓vM,↓vO,↓vP,↓vQ,↓vT,↓vU,↓vZ,↓wA,↓wF,wpEs,wpOr,wpAnd,↓tA,↓tB,↓tC,↓tD,↓tE,↓yA,↓yB,wpIt,wpBin,cmpV,eqO,eqV,inV,seqOf,wpIdx,wpSlc,wpBytes,wpLen,wpIndex,wpSetItem,wpSetAttr,wpAttr,initOf,methN,posOf,sizesL,kindsL,frees,putF,getN,zA,zB,zC,zD,zE,zF,zG,qA,qB,qC,qD,qE,qF,reduceCtorEq,↓reduceIte,qG,zH,zI,zJ,zK,zL,zM,zN,qH,qI,zO,zP,zQ,zR,qJ,zS,zT,Nat.reduceAdd,Nat.reduceLT,Int.reduceLT,Int.reduceLE,Int.reduceNeg,Int.reduceSub,Int.reduceMul,Int.reduceAdd,Int.reduceToNat,qO,qP,zU,zV,zW,zX,zY,zZ,aR1,aR2,aW1,aW2,aW3,aW4,aW5,aW6,aW7,aW8,aW9,aWa,aWb,qK,qL,qM,qN,ggA,ssA,ggB,ssB,ggC,ssC,ggD,ssD,ggE,ssE,ggF,ssF,ggG,ssG,ggH,ssH,ggI,ssI,ggJ,ssJ,ggK,ssK,rawF_len, r1]
  refine c_left bs tb rd1 (by first | exact mm hm | exact m1 hm | decide | (first | lia | omega)) ?_
  have h0' : decide ((rest.flatten.length : Int) > 0) = decide (rest ≠ []) := by
    cases rest with
    | nil => rfl
    | cons v rest =>
      have : v.length = 4 := hv v (by rw [← hdr]; simp)
      simp; (first | lia | omega)
  simp only [wpSs,↓xA,↓xB,↓xD,↓xE,↓xG,↓xJ,↓vC,↓vE,↓vF,↓vH,↓vL,↓vM,↓vO,↓vP,↓vQ,↓vT,↓vU,↓vZ,↓wA,↓wF,wpEs,wpOr,wpAnd,↓tA,↓tB,↓tC,↓tD,↓tE,↓yA,↓yB,wpIt,wpBin,cmpV,eqO,eqV,inV,seqOf,wpIdx,wpSlc,wpBytes,wpLen,wpIndex,wpSetItem,wpSetAttr,wpAttr,initOf,methN,posOf,sizesL,kindsL,frees,putF,getN,zA,zB,zC,zD,zE,zF,zG,qA,qB,qC,qD,qE,qF,reduceCtorEq,↓reduceIte,qG,zH,zI,zJ,zK,zL,zM,zN,qH,qI,zO,zP,zQ,zR,qJ,zS,zT,Nat.reduceAdd,Nat.reduceLT,Int.reduceLT,Int.reduceLE,Int.reduceNeg,Int.reduceSub,Int.reduceMul,Int.reduceAdd,Int.reduceToNat,qO,qP,zU,zV,zW,zX,zY,zZ,aR1,aR2,aW1,aW2,aW3,aW4,aW5,aW6,aW7,aW8,aW9,aWa,aWb,qK,qL,qM,qN,ggA,ssA,ggB,ssB,ggC,ssC,ggD,ssD,ggE,ssE,ggF,ssF,ggG,ssG,ggH,ssH,ggI,ssI,ggJ,ssJ,ggK,ssK,rawF_len, h0']
  cases rest with
  | nil =>
    rw [List.append_nil] at hdr
    subst hdr
    exact ⟨fun _ => q _ hf1 e1, fun hh => by simp at hh⟩
  | cons v rest =>
    refine ⟨fun hh => by simp at hh, fun _ => ?_⟩
    simp only [lb_read_versions_0, wpSs,↓xA,↓xB,↓xD,↓xE,↓xG,↓xJ,↓vC,↓vE,↓vF,↓vH,↓vL,↓vM,↓vO,↓vP,↓vQ,↓vT,↓vU,↓vZ,↓wA,↓wF,wpEs,wpOr,wpAnd,↓tA,↓tB,↓tC,↓tD,↓tE,↓yA,↓yB,wpIt,wpBin,cmpV,eqO,eqV,inV,seqOf,wpIdx,wpSlc,wpBytes,wpLen,wpIndex,wpSetItem,wpSetAttr,wpAttr,initOf,methN,posOf,sizesL,kindsL,frees,putF,getN,zA,zB,zC,zD,zE,zF,zG,qA,qB,qC,qD,qE,qF,reduceCtorEq,↓reduceIte,qG,zH,zI,zJ,zK,zL,zM,zN,qH,qI,zO,zP,zQ,zR,qJ,zS,zT,Nat.reduceAdd,Nat.reduceLT,Int.reduceLT,Int.reduceLE,Int.reduceNeg,Int.reduceSub,Int.reduceMul,Int.reduceAdd,Int.reduceToNat,qO,qP,zU,zV,zW,zX,zY,zZ,aR1,aR2,aW1,aW2,aW3,aW4,aW5,aW6,aW7,aW8,aW9,aWa,aWb,qK,qL,qM,qN,ggA,ssA,ggB,ssB,ggC,ssC,ggD,ssD,ggE,ssE,ggF,ssF,ggG,ssG,ggH,ssH,ggI,ssI,ggJ,ssJ,ggK,ssK,rawF_len, e1, r1]
    rw [List.flatten_cons] at rd1
    refine c_whole bs tb rd1 (hv v (by rw [← hdr]; simp)) (by first | exact mm hm | exact m1 hm | decide | (first | lia | omega)) fun h2 fr2 rd2 => ?_
    have e2 := fr2.2 kf _ e1 (by simpa using hk.symm)
    have hlen := congrArg List.length hdr
    simp only [wpSs,↓xA,↓xB,↓xD,↓xE,↓xG,↓xJ,↓vC,↓vE,↓vF,↓vH,↓vL,↓vM,↓vO,↓vP,↓vQ,↓vT,↓vU,↓vZ,↓wA,↓wF,wpEs,wpOr,wpAnd,↓tA,↓tB,↓tC,↓tD,↓tE,↓yA,↓yB,wpIt,wpBin,cmpV,eqO,eqV,inV,seqOf,wpIdx,wpSlc,wpBytes,wpLen,wpIndex,wpSetItem,wpSetAttr,wpAttr,initOf,methN,posOf,sizesL,kindsL,frees,putF,getN,zA,zB,zC,zD,zE,zF,zG,qA,qB,qC,qD,qE,qF,reduceCtorEq,↓reduceIte,qG,zH,zI,zJ,zK,zL,zM,zN,qH,qI,zO,zP,zQ,zR,qJ,zS,zT,Nat.reduceAdd,Nat.reduceLT,Int.reduceLT,Int.reduceLE,Int.reduceNeg,Int.reduceSub,Int.reduceMul,Int.reduceAdd,Int.reduceToNat,qO,qP,zU,zV,zW,zX,zY,zZ,aR1,aR2,aW1,aW2,aW3,aW4,aW5,aW6,aW7,aW8,aW9,aWa,aWb,qK,qL,qM,qN,ggA,ssA,ggB,ssB,ggC,ssC,ggD,ssD,ggE,ssE,ggF,ssF,ggG,ssG,ggH,ssH,ggI,ssI,ggJ,ssJ,ggK,ssK,rawF_len, e2]
    refine ⟨by simp at hlen ⊢; (first | lia | omega), rest.length, by simp, don ++ [v], rest, by simpa using hdr, rfl, (hf1.drop fr2 (by simpa using hkk.1)).setNew hkk.2 _, ?_, ?_⟩
    · obtain ⟨p2, hp2, r2⟩ := rd2
      refine ⟨p2, hp2, ?_⟩
      unfold RdAt at r2 ⊢
      rw [List.getElem?_set_ne hk.symm]
      exact r2
    · rw [get_set (lt_of e2)]
      simp
theorem flatten4 : ∀ (vs : List (List UInt8)), (∀ v ∈ vs, v.length = 4) → vs.flatten.length = 4 * vs.length
  | [], _ => rfl
  | v :: vs, h => by
    have := h v (by simp)
    have := flatten4 vs fun x hx => h x (by simp [hx])
    rw [List.flatten_cons, List.length_append, List.length_cons]; (first | lia | omega)
theorem c_read_versions (bs : Base w B) (tb : Tabs B) {p : List UInt8} {vs : List (List UInt8)} {m : Nat} {h : H} {Q : K1} (hv : ∀ v ∈ vs, v.length = 4) (hne : vs ≠ []) (hl : vs.length ≤ 500) (hm : 3 ≤ m)
    (q : ∀ h' k, Fr [] h h' → h'[k]? = some (.list (vs.map fun v => .int (ofBe v))) → Q (.obj k) h') : G w B m 235 [.bytes (p ++ vs.flatten), .int p.length] h Q := by
  refine fn_go bs tb (f_read_versions _) (by first | exact mm hm | exact m1 hm | decide | (first | lia | omega)) [some (.bytes (p ++ vs.flatten)), some (.int p.length), none, none] rfl rfl ?_
  have h4 := flatten4 vs hv
  have hpos : 0 < vs.length := List.length_pos_iff.mpr hne
  have h0 : decide ((((p ++ vs.flatten).length : Int) - (p.length : Int)) % 4 = 0) = true := by simp [h4]; (first | lia | omega)
  have h1 : decide ((p.length : Int) = ((p ++ vs.flatten).length : Int)) = false := by simp [h4]; (first | lia | omega)
  simp only [b_read_versions, wpSs,↓xA,↓xB,↓xD,↓xE,↓xG,↓xJ,↓vC,↓vE,↓vF,↓vH,↓vL,↓vM,↓vO,↓vP,↓vQ,↓vT,↓vU,↓vZ,↓wA,↓wF,wpEs,wpOr,wpAnd,↓tA,↓tB,↓tC,↓tD,↓tE,↓yA,↓yB,wpIt,wpBin,cmpV,eqO,eqV,inV,seqOf,wpIdx,wpSlc,wpBytes,wpLen,wpIndex,wpSetItem,wpSetAttr,wpAttr,initOf,methN,posOf,sizesL,kindsL,frees,putF,getN,zA,zB,zC,zD,zE,zF,zG,qA,qB,qC,qD,qE,qF,reduceCtorEq,↓reduceIte,qG,zH,zI,zJ,zK,zL,zM,zN,qH,qI,zO,zP,zQ,zR,qJ,zS,zT,Nat.reduceAdd,Nat.reduceLT,Int.reduceLT,Int.reduceLE,Int.reduceNeg,Int.reduceSub,Int.reduceMul,Int.reduceAdd,Int.reduceToNat,qO,qP,zU,zV,zW,zX,zY,zZ,aR1,aR2,aW1,aW2,aW3,aW4,aW5,aW6,aW7,aW8,aW9,aWa,aWb,qK,qL,qM,qN,ggA,ssA,ggB,ssB,ggC,ssC,ggD,ssD,ggE,ssE,ggF,ssF,ggG,ssG,ggH,ssH,ggI,ssI,ggJ,ssJ,ggK,ssK,rawF_len, h0, h1]
  simp only [tl_read_versions_1, wpSs,↓xA,↓xB,↓xD,↓xE,↓xG,↓xJ,↓vC,↓vE,↓vF,↓vH,↓vL,↓vM,↓vO,↓vP,↓vQ,↓vT,↓vU,↓vZ,↓wA,↓wF,wpEs,wpOr,wpAnd,↓tA,↓tB,↓tC,↓tD,↓tE,↓yA,↓yB,wpIt,wpBin,cmpV,eqO,eqV,inV,seqOf,wpIdx,wpSlc,wpBytes,wpLen,wpIndex,wpSetItem,wpSetAttr,wpAttr,initOf,methN,posOf,sizesL,kindsL,frees,putF,getN,zA,zB,zC,zD,zE,zF,zG,qA,qB,qC,qD,qE,qF,reduceCtorEq,↓reduceIte,qG,zH,zI,zJ,zK,zL,zM,zN,qH,qI,zO,zP,zQ,zR,qJ,zS,zT,Nat.reduceAdd,Nat.reduceLT,Int.reduceLT,Int.reduceLE,Int.reduceNeg,Int.reduceSub,Int.reduceMul,Int.reduceAdd,Int.reduceToNat,qO,qP,zU,zV,zW,zX,zY,zZ,aR1,aR2,aW1,aW2,aW3,aW4,aW5,aW6,aW7,aW8,aW9,aWa,aWb,qK,qL,qM,qN,ggA,ssA,ggB,ssB,ggC,ssC,ggD,ssD,ggE,ssE,ggF,ssF,ggG,ssG,ggH,ssH,ggI,ssI,ggJ,ssJ,ggK,ssK,rawF_len]
  refine c_reader_init bs tb (get_last _ _) (by first | exact mm hm | exact m1 hm | decide | (first | lia | omega)) fun h1 fr1 rd1 => ?_
  have f1 : Fr [] h h1 := (Fr.app h _).drop fr1 (by simp)
  have hk1 : h.length < h1.length := lt_of (by unfold RdAt at rd1; exact rd1)
  unfold RdAt at rd1
  have rd2 : (h1 ++ [O.list []] ++ [O.tup [V.obj h.length, V.obj h1.length]])[h.length]? = some (.inst .reader [(.data, .bytes (p ++ vs.flatten)), (.at_, .int (0 : Nat))]) := by
    rw [List.append_assoc, List.getElem?_append_left hk1]; exact rd1
  simp only [tl_read_versions_2, wpSs,↓xA,↓xB,↓xD,↓xE,↓xG,↓xJ,↓vC,↓vE,↓vF,↓vH,↓vL,↓vM,↓vO,↓vP,↓vQ,↓vT,↓vU,↓vZ,↓wA,↓wF,wpEs,wpOr,wpAnd,↓tA,↓tB,↓tC,↓tD,↓tE,↓yA,↓yB,wpIt,wpBin,cmpV,eqO,eqV,inV,seqOf,wpIdx,wpSlc,wpBytes,wpLen,wpIndex,wpSetItem,wpSetAttr,wpAttr,initOf,methN,posOf,sizesL,kindsL,frees,putF,getN,zA,zB,zC,zD,zE,zF,zG,qA,qB,qC,qD,qE,qF,reduceCtorEq,↓reduceIte,qG,zH,zI,zJ,zK,zL,zM,zN,qH,qI,zO,zP,zQ,zR,qJ,zS,zT,Nat.reduceAdd,Nat.reduceLT,Int.reduceLT,Int.reduceLE,Int.reduceNeg,Int.reduceSub,Int.reduceMul,Int.reduceAdd,Int.reduceToNat,qO,qP,zU,zV,zW,zX,zY,zZ,aR1,aR2,aW1,aW2,aW3,aW4,aW5,aW6,aW7,aW8,aW9,aWa,aWb,qK,qL,qM,qN,ggA,ssA,ggB,ssB,ggC,ssC,ggD,ssD,ggE,ssE,ggF,ssF,ggG,ssG,ggH,ssH,ggI,ssI,ggJ,ssJ,ggK,ssK,rawF_len, rd2]
  have hlt : h.length < (h1 ++ [O.list []] ++ [O.tup [V.obj h.length, V.obj h1.length]]).length := by simp; (first | lia | omega)
  have hset : ∀ o, ((h1 ++ [O.list []] ++ [O.tup [V.obj h.length, V.obj h1.length]]).set h.length o)[h.length]? = some o := fun o => get_set hlt
  rw [tl_read_versions_3, wpSs]
  refine ver_loop bs tb (k := h.length) (kf := h1.length) (h0 := h) (by first | exact mm hm | exact m1 hm | decide | (first | lia | omega)) ⟨Nat.le_refl _, by (first | lia | omega)⟩ (by first | exact mm hm | exact m1 hm | decide | (first | lia | omega)) vs _ (((f1.push _).push _).setNew (Nat.le_refl _) _) hv hl ⟨p, rfl, hset _⟩ ?_ fun h' fr e' => ?_
  · rw [List.getElem?_set_ne (by first | exact mm hm | exact m1 hm | decide | (first | lia | omega))]
    exact get_last2 _ _ _
  · simp only [tl_read_versions_4, wpSs,↓xA,↓xB,↓xD,↓xE,↓xG,↓xJ,↓vC,↓vE,↓vF,↓vH,↓vL,↓vM,↓vO,↓vP,↓vQ,↓vT,↓vU,↓vZ,↓wA,↓wF,wpEs,wpOr,wpAnd,↓tA,↓tB,↓tC,↓tD,↓tE,↓yA,↓yB,wpIt,wpBin,cmpV,eqO,eqV,inV,seqOf,wpIdx,wpSlc,wpBytes,wpLen,wpIndex,wpSetItem,wpSetAttr,wpAttr,initOf,methN,posOf,sizesL,kindsL,frees,putF,getN,zA,zB,zC,zD,zE,zF,zG,qA,qB,qC,qD,qE,qF,reduceCtorEq,↓reduceIte,qG,zH,zI,zJ,zK,zL,zM,zN,qH,qI,zO,zP,zQ,zR,qJ,zS,zT,Nat.reduceAdd,Nat.reduceLT,Int.reduceLT,Int.reduceLE,Int.reduceNeg,Int.reduceSub,Int.reduceMul,Int.reduceAdd,Int.reduceToNat,qO,qP,zU,zV,zW,zX,zY,zZ,aR1,aR2,aW1,aW2,aW3,aW4,aW5,aW6,aW7,aW8,aW9,aWa,aWb,qK,qL,qM,qN,ggA,ssA,ggB,ssB,ggC,ssC,ggD,ssD,ggE,ssE,ggF,ssF,ggG,ssG,ggH,ssH,ggI,ssI,ggJ,ssJ,ggK,ssK,rawF_len]
    exact q _ _ fr e'
/- ==== read_long ==== -/
theorem c_read_long_start (bs : Base w B) (tb : Tabs B) {f ld ls : UInt8} {v4 d s r : List UInt8} {m : Nat} {h : H} {Q : K1} (hv : v4.length = 4) (hd : ld.toNat = d.length) (hs : ls.toNat = s.length) (hm : 4 ≤ m) {D : List UInt8} (hD : D = f :: (v4 ++ (ld :: (d ++ (ls :: (s ++ r))))))
    (q : ∀ h' k vs, Fr [] h h' → h.length ≤ k → h'[k]? = some (.inst .raw (rawF (.str .negotiation) (.int f.toNat) (.int (ofBe v4)) (.bytes d) (.bytes s) (.bytes []) (.bytes []) vs (.int 0) (.int 0) (.int D.length))) →
      wpSs (G w B (m - 1)) tl_read_long_3 [some (.bytes D), some (.int 0), some (.int f.toNat), some (.int (ofBe v4)), some (.bytes d), some (.bytes s), some (.int ((D.length - r.length : Nat) : Int)), some (.obj k)] h'
        fun fl _ h' => match fl with | .ret v => Q v h' | .next => Q .none h' | .brk => False) : G w B m 242 [.bytes D, .int 0] h Q := by
  refine fn_go bs tb (f_read_long _) (by first | exact mm hm | exact m1 hm | decide | (first | lia | omega)) [some (.bytes D), some (.int 0), none, none, none, none, none, none] rfl rfl ?_
  simp only [b_read_long, wpSs,↓xB,↓xD,↓xG,↓xH,↓xI,↓xJ,↓vA,↓vC,↓vD,↓vE,↓vF,↓vG,↓vH,↓vL,↓vM,↓vO,↓vP,↓vS,↓vT,↓vU,↓wF,↓wG,wpEs,wpOr,wpAnd,↓tA,↓tB,↓tD,↓tE,↓yA,↓yB,wpIt,wpBin,cmpV,eqO,eqV,inV,seqOf,wpIdx,wpSlc,wpBytes,wpLen,wpIndex,wpSetItem,wpSetAttr,wpAttr,initOf,methN,posOf,sizesL,kindsL,frees,putF,getN,zA,zB,zC,zD,zE,zF,zG,qA,qB,qC,qD,qE,qF,reduceCtorEq,↓reduceIte,qG,zH,zI,zJ,zK,zL,zM,zN,qH,qI,zO,zP,zQ,zR,qJ,zS,zT,Nat.reduceAdd,Nat.reduceLT,Int.reduceLT,Int.reduceLE,Int.reduceNeg,Int.reduceSub,Int.reduceMul,Int.reduceAdd,Int.reduceToNat,qO,qP,zU,zV,zW,zX,zY,zZ,aR1,aR2,aW1,aW2,aW3,aW4,aW5,aW6,aW7,aW8,aW9,aWa,aWb,qK,qL,qM,qN,ggA,ssA,ggB,ssB,ggC,ssC,ggD,ssD,ggE,ssE,ggF,ssF,ggG,ssG,ggH,ssH,ggI,ssI,ggJ,ssJ,ggK,ssK,rawF_len]
  refine c_read_invariants bs tb hv hd hs (by first | exact mm hm | exact m1 hm | decide | (first | lia | omega)) hD fun h1 k1 fr1 e1 => ?_
  simp only [wpSs,↓xB,↓xD,↓xG,↓xH,↓xI,↓xJ,↓vA,↓vC,↓vD,↓vE,↓vF,↓vG,↓vH,↓vL,↓vM,↓vO,↓vP,↓vS,↓vT,↓vU,↓wF,↓wG,wpEs,wpOr,wpAnd,↓tA,↓tB,↓tD,↓tE,↓yA,↓yB,wpIt,wpBin,cmpV,eqO,eqV,inV,seqOf,wpIdx,wpSlc,wpBytes,wpLen,wpIndex,wpSetItem,wpSetAttr,wpAttr,initOf,methN,posOf,sizesL,kindsL,frees,putF,getN,zA,zB,zC,zD,zE,zF,zG,qA,qB,qC,qD,qE,qF,reduceCtorEq,↓reduceIte,qG,zH,zI,zJ,zK,zL,zM,zN,qH,qI,zO,zP,zQ,zR,qJ,zS,zT,Nat.reduceAdd,Nat.reduceLT,Int.reduceLT,Int.reduceLE,Int.reduceNeg,Int.reduceSub,Int.reduceMul,Int.reduceAdd,Int.reduceToNat,qO,qP,zU,zV,zW,zX,zY,zZ,aR1,aR2,aW1,aW2,aW3,aW4,aW5,aW6,aW7,aW8,aW9,aWa,aWb,qK,qL,qM,qN,ggA,ssA,ggB,ssB,ggC,ssC,ggD,ssD,ggE,ssE,ggF,ssF,ggG,ssG,ggH,ssH,ggI,ssI,ggJ,ssJ,ggK,ssK,rawF_len, e1]
  simp only [tl_read_long_1, wpSs,↓xB,↓xD,↓xG,↓xH,↓xI,↓xJ,↓vA,↓vC,↓vD,↓vE,↓vF,↓vG,↓vH,↓vL,↓vM,↓vO,↓vP,↓vS,↓vT,↓vU,↓wF,↓wG,wpEs,wpOr,wpAnd,↓tA,↓tB,↓tD,↓tE,↓yA,↓yB,wpIt,wpBin,cmpV,eqO,eqV,inV,seqOf,wpIdx,wpSlc,wpBytes,wpLen,wpIndex,wpSetItem,wpSetAttr,wpAttr,initOf,methN,posOf,sizesL,kindsL,frees,putF,getN,zA,zB,zC,zD,zE,zF,zG,qA,qB,qC,qD,qE,qF,reduceCtorEq,↓reduceIte,qG,zH,zI,zJ,zK,zL,zM,zN,qH,qI,zO,zP,zQ,zR,qJ,zS,zT,Nat.reduceAdd,Nat.reduceLT,Int.reduceLT,Int.reduceLE,Int.reduceNeg,Int.reduceSub,Int.reduceMul,Int.reduceAdd,Int.reduceToNat,qO,qP,zU,zV,zW,zX,zY,zZ,aR1,aR2,aW1,aW2,aW3,aW4,aW5,aW6,aW7,aW8,aW9,aWa,aWb,qK,qL,qM,qN,ggA,ssA,ggB,ssB,ggC,ssC,ggD,ssD,ggE,ssE,ggF,ssF,ggG,ssG,ggH,ssH,ggI,ssI,ggJ,ssJ,ggK,ssK,rawF_len]
  refine c_raw_init bs tb (get_last _ _) (by first | exact mm hm | exact m1 hm | decide | (first | lia | omega)) fun h2 kv fr2 e2 => ?_
  have hk2 := lt_of e2
  have f2 : Fr [] h h2 := (fr1.push _).drop fr2 (by simpa using fr1.1)
  have e3 : ∀ o, (h2 ++ [o])[h1.length]? = h2[h1.length]? := fun o => by rw [List.getElem?_append_left hk2]
  have e4 : ∀ o o', ((h2 ++ [o]).set h1.length o')[h1.length]? = some o' := fun o o' => get_set (by simp; (first | lia | omega))
  simp only [tl_read_long_2, wpSs,↓xB,↓xD,↓xG,↓xH,↓xI,↓xJ,↓vA,↓vC,↓vD,↓vE,↓vF,↓vG,↓vH,↓vL,↓vM,↓vO,↓vP,↓vS,↓vT,↓vU,↓wF,↓wG,wpEs,wpOr,wpAnd,↓tA,↓tB,↓tD,↓tE,↓yA,↓yB,wpIt,wpBin,cmpV,eqO,eqV,inV,seqOf,wpIdx,wpSlc,wpBytes,wpLen,wpIndex,wpSetItem,wpSetAttr,wpAttr,initOf,methN,posOf,sizesL,kindsL,frees,putF,getN,zA,zB,zC,zD,zE,zF,zG,qA,qB,qC,qD,qE,qF,reduceCtorEq,↓reduceIte,qG,zH,zI,zJ,zK,zL,zM,zN,qH,qI,zO,zP,zQ,zR,qJ,zS,zT,Nat.reduceAdd,Nat.reduceLT,Int.reduceLT,Int.reduceLE,Int.reduceNeg,Int.reduceSub,Int.reduceMul,Int.reduceAdd,Int.reduceToNat,qO,qP,zU,zV,zW,zX,zY,zZ,aR1,aR2,aW1,aW2,aW3,aW4,aW5,aW6,aW7,aW8,aW9,aWa,aWb,qK,qL,qM,qN,ggA,ssA,ggB,ssB,ggC,ssC,ggD,ssD,ggE,ssE,ggF,ssF,ggG,ssG,ggH,ssH,ggI,ssI,ggJ,ssJ,ggK,ssK,rawF_len, e2, e3, e4, List.set_set]
  refine q _ _ (.obj kv) ((f2.push _).setNew fr1.1 _) fr1.1 ?_
  rw [e4]
theorem c_read_long_neg (bs : Base w B) (tb : Tabs B) {f ld ls : UInt8} {v4 d s : List UInt8} {vs : List (List UInt8)} {m : Nat} {h : H} {Q : K1} (hv4 : v4.length = 4) (h0 : ofBe v4 = 0) (hd : ld.toNat = d.length) (hs : ls.toNat = s.length)
    (hv : ∀ v ∈ vs, v.length = 4) (hne : vs ≠ []) (hl : vs.length ≤ 500) (hm : 5 ≤ m) {D : List UInt8} (hD : D = f :: (v4 ++ (ld :: (d ++ (ls :: (s ++ vs.flatten))))))
    (q : ∀ h' k kv, Fr [] h h' → h'[k]? = some (.inst .raw (rawF (.str .negotiation) (.int f.toNat) (.int 0) (.bytes d) (.bytes s) (.bytes []) (.bytes []) (.obj kv) (.int 0) (.int 0) (.int D.length))) → h'[kv]? = some (.list (vs.map fun v => .int (ofBe v))) → Q (.obj k) h') :
    G w B m 242 [.bytes D, .int 0] h Q := by
  refine c_read_long_start bs tb hv4 hd hs (by first | exact mm hm | exact m1 hm | decide | (first | lia | omega)) hD fun h1 k vs1 fr1 hk e1 => ?_
  rw [h0] at e1 ⊢
  have eD : D = (f :: (v4 ++ (ld :: (d ++ (ls :: s))))) ++ vs.flatten := by rw [hD]; simp
  have e1' := e1
  simp only [tl_read_long_3, wpSs,↓xB,↓xD,↓xG,↓xI,↓xJ,↓vC,↓vD,↓vE,↓vF,↓vG,↓vH,↓vL,↓vM,↓vO,↓vP,↓vS,↓vT,↓vU,↓wF,↓wG,wpEs,wpOr,wpAnd,↓tA,↓tB,↓tD,↓tE,↓yA,↓yB,wpIt,wpBin,cmpV,eqO,eqV,inV,seqOf,wpIdx,wpSlc,wpBytes,wpLen,wpIndex,wpSetItem,wpSetAttr,wpAttr,initOf,methN,posOf,sizesL,kindsL,frees,putF,getN,zA,zB,zC,zD,zE,zF,zG,qA,qB,qC,qD,qE,qF,reduceCtorEq,↓reduceIte,qG,zH,zI,zJ,zK,zL,zM,zN,qH,qI,zO,zP,zQ,zR,qJ,zS,zT,Nat.reduceAdd,Nat.reduceLT,Int.reduceLT,Int.reduceLE,Int.reduceNeg,Int.reduceSub,Int.reduceMul,Int.reduceAdd,Int.reduceToNat,qO,qP,zU,zV,zW,zX,zY,zZ,aR1,aR2,aW1,aW2,aW3,aW4,aW5,aW6,aW7,aW8,aW9,aWa,aWb,qK,qL,qM,qN,ggA,ssA,ggB,ssB,ggC,ssC,ggD,ssD,ggE,ssE,ggF,ssF,ggG,ssG,ggH,ssH,ggI,ssI,ggJ,ssJ,ggK,ssK,rawF_len, e1]
  have eL : D.length - vs.flatten.length = (f :: (v4 ++ (ld :: (d ++ (ls :: s))))).length := by rw [eD, List.length_append]; (first | lia | omega)
  rw [eL]
  have := c_read_versions bs tb (p := f :: (v4 ++ (ld :: (d ++ (ls :: s))))) (vs := vs) (m := m - 1) (h := h1) hv hne hl (by first | exact mm hm | exact m1 hm | decide | (first | lia | omega)) (Q := fun v h2 => match h2[k]? with
    | some (.inst c fs) => (attrOk c .versions = true ∧ fs.length < 100) ∧ Q (.obj k) (h2.set k (.inst c (putF .versions v fs)))
    | _ => False) fun h2 kv fr2 e2 => ?_
  · rw [← eD] at this
    have hz : decide (((0 : Nat) : Int) = 0) = true := by decide
    rw [hz]
    exact this
  · have e3 := fr2.2 k _ e1 (by simp)
    simp only [wpSs,↓xB,↓xD,↓xG,↓xI,↓xJ,↓vC,↓vD,↓vE,↓vF,↓vG,↓vH,↓vL,↓vM,↓vO,↓vP,↓vS,↓vT,↓vU,↓wF,↓wG,wpEs,wpOr,wpAnd,↓tA,↓tB,↓tD,↓tE,↓yA,↓yB,wpIt,wpBin,cmpV,eqO,eqV,inV,seqOf,wpIdx,wpSlc,wpBytes,wpLen,wpIndex,wpSetItem,wpSetAttr,wpAttr,initOf,methN,posOf,sizesL,kindsL,frees,putF,getN,zA,zB,zC,zD,zE,zF,zG,qA,qB,qC,qD,qE,qF,reduceCtorEq,↓reduceIte,qG,zH,zI,zJ,zK,zL,zM,zN,qH,qI,zO,zP,zQ,zR,qJ,zS,zT,Nat.reduceAdd,Nat.reduceLT,Int.reduceLT,Int.reduceLE,Int.reduceNeg,Int.reduceSub,Int.reduceMul,Int.reduceAdd,Int.reduceToNat,qO,qP,zU,zV,zW,zX,zY,zZ,aR1,aR2,aW1,aW2,aW3,aW4,aW5,aW6,aW7,aW8,aW9,aWa,aWb,qK,qL,qM,qN,ggA,ssA,ggB,ssB,ggC,ssC,ggD,ssD,ggE,ssE,ggF,ssF,ggG,ssG,ggH,ssH,ggI,ssI,ggJ,ssJ,ggK,ssK,rawF_len, e3]
    have hk2 := lt_of e3
    refine q _ k kv ((fr1.trans fr2).setNew hk _) (get_set hk2) ?_
    rw [List.getElem?_set_ne]
    · exact e2
    · rintro rfl
      rw [e3] at e2; cases e2
theorem c_read_long_unk (bs : Base w B) (tb : Tabs B) {f ld ls : UInt8} {v4 d s r : List UInt8} {m : Nat} {h : H} {Q : K1} (hv4 : v4.length = 4) (h0 : 2 ≤ ofBe v4) (hd : ld.toNat = d.length) (hs : ls.toNat = s.length)
    (hm : 5 ≤ m) {D : List UInt8} (hD : D = f :: (v4 ++ (ld :: (d ++ (ls :: (s ++ r))))))
    (q : ∀ h' k vs, Fr [] h h' → h'[k]? = some (.inst .raw (rawF (.str .unknown) (.int f.toNat) (.int (ofBe v4)) (.bytes d) (.bytes s) (.bytes []) (.bytes []) vs (.int 0) (.int 0) (.int D.length))) → Q (.obj k) h') :
    G w B m 242 [.bytes D, .int 0] h Q := by
  refine c_read_long_start bs tb hv4 hd hs (by first | exact mm hm | exact m1 hm | decide | (first | lia | omega)) hD fun h1 k vs1 fr1 hk e1 => ?_
  have d0 : decide ((ofBe v4 : Int) = 0) = false := by simp; (first | lia | omega)
  have d1 : decide ((ofBe v4 : Int) = 1) = false := by simp; (first | lia | omega)
  simp only [tl_read_long_3, wpSs,↓xB,↓xD,↓xG,↓xI,↓xJ,↓vC,↓vD,↓vE,↓vF,↓vG,↓vH,↓vL,↓vM,↓vO,↓vP,↓vS,↓vT,↓vU,↓wF,↓wG,wpEs,wpOr,wpAnd,↓tA,↓tB,↓tD,↓tE,↓yA,↓yB,wpIt,wpBin,cmpV,eqO,eqV,inV,seqOf,wpIdx,wpSlc,wpBytes,wpLen,wpIndex,wpSetItem,wpSetAttr,wpAttr,initOf,methN,posOf,sizesL,kindsL,frees,putF,getN,zA,zB,zC,zD,zE,zF,zG,qA,qB,qC,qD,qE,qF,reduceCtorEq,↓reduceIte,qG,zH,zI,zJ,zK,zL,zM,zN,qH,qI,zO,zP,zQ,zR,qJ,zS,zT,Nat.reduceAdd,Nat.reduceLT,Int.reduceLT,Int.reduceLE,Int.reduceNeg,Int.reduceSub,Int.reduceMul,Int.reduceAdd,Int.reduceToNat,qO,qP,zU,zV,zW,zX,zY,zZ,aR1,aR2,aW1,aW2,aW3,aW4,aW5,aW6,aW7,aW8,aW9,aWa,aWb,qK,qL,qM,qN,ggA,ssA,ggB,ssB,ggC,ssC,ggD,ssD,ggE,ssE,ggF,ssF,ggG,ssG,ggH,ssH,ggI,ssI,ggJ,ssJ,ggK,ssK,rawF_len, d0]
  simp only [tl_read_long_4, wpSs,↓xB,↓xD,↓xG,↓xI,↓xJ,↓vC,↓vD,↓vE,↓vF,↓vG,↓vH,↓vL,↓vM,↓vO,↓vP,↓vS,↓vT,↓vU,↓wF,↓wG,wpEs,wpOr,wpAnd,↓tA,↓tB,↓tD,↓tE,↓yA,↓yB,wpIt,wpBin,cmpV,eqO,eqV,inV,seqOf,wpIdx,wpSlc,wpBytes,wpLen,wpIndex,wpSetItem,wpSetAttr,wpAttr,initOf,methN,posOf,sizesL,kindsL,frees,putF,getN,zA,zB,zC,zD,zE,zF,zG,qA,qB,qC,qD,qE,qF,reduceCtorEq,↓reduceIte,qG,zH,zI,zJ,zK,zL,zM,zN,qH,qI,zO,zP,zQ,zR,qJ,zS,zT,Nat.reduceAdd,Nat.reduceLT,Int.reduceLT,Int.reduceLE,Int.reduceNeg,Int.reduceSub,Int.reduceMul,Int.reduceAdd,Int.reduceToNat,qO,qP,zU,zV,zW,zX,zY,zZ,aR1,aR2,aW1,aW2,aW3,aW4,aW5,aW6,aW7,aW8,aW9,aWa,aWb,qK,qL,qM,qN,ggA,ssA,ggB,ssB,ggC,ssC,ggD,ssD,ggE,ssE,ggF,ssF,ggG,ssG,ggH,ssH,ggI,ssI,ggJ,ssJ,ggK,ssK,rawF_len, e1, d1]
  exact q _ k vs1 (fr1.setNew hk _) (get_set (lt_of e1))
theorem c_read_retry (bs : Base w B) (tb : Tabs B) {p tok tag d s : List UInt8} {k m : Nat} {kd f ver vs st na en : V} {h : H} {Q : K1} (htag : tag.length = 16) (e : h[k]? = some (.inst .raw (rawF kd f ver (.bytes d) (.bytes s) (.bytes []) (.bytes []) vs st na en))) (hm : 1 ≤ m)
    (q : ∀ h', Fr [k] h h' → h'[k]? = some (.inst .raw (rawF kd f ver (.bytes d) (.bytes s) (.bytes tok) (.bytes tag) vs st na en)) → Q (.obj k) h') : G w B m 249 [.bytes (p ++ (tok ++ tag)), .int p.length, .obj k] h Q := by
  refine fn_go bs tb (f_read_retry _) (by first | exact mm hm | exact m1 hm | decide | (first | lia | omega)) [some (.bytes (p ++ (tok ++ tag))), some (.int p.length), some (.obj k)] rfl rfl ?_
  have hl : (p ++ (tok ++ tag)).length = p.length + tok.length + 16 := by simp; (first | lia | omega)
  have d0 : decide (((p ++ (tok ++ tag)).length : Int) - (p.length : Int) < 16) = false := by rw [hl]; simp; (first | lia | omega)
  have e1 : (((p ++ (tok ++ tag)).length : Int) - 16) = ((p.length + tok.length : Nat) : Int) := by rw [hl]; (first | lia | omega)
  have e2 : cut (p ++ (tok ++ tag)) (some (p.length : Int)) (some ((p.length + tok.length : Nat) : Int)) = tok := by
    rw [cut_nat (by first | exact mm hm | exact m1 hm | decide | (first | lia | omega)) (by first | exact mm hm | exact m1 hm | decide | (first | lia | omega)), Nat.add_sub_cancel_left, sl_mid]
  have e3 : cut (p ++ (tok ++ tag)) (some ((p.length + tok.length : Nat) : Int)) none = tag := by
    rw [cut_from (by first | exact mm hm | exact m1 hm | decide | (first | lia | omega)), ← List.append_assoc, ← List.length_append, List.drop_left]
  have hk := lt_of e
  have e4 : ∀ o, (h ++ [o])[k]? = h[k]? := fun o => by rw [List.getElem?_append_left hk]
  have e5 : ∀ o o', ((h ++ [o]).set k o')[k]? = some o' := fun o o' => get_set (by simp; (first | lia | omega))
  simp only [b_read_retry, wpSs,↓xB,↓xD,↓xG,↓xJ,↓vC,↓vE,↓vF,↓vG,↓vH,↓vM,↓vO,↓vP,↓vU,↓wF,↓wH,↓wJ,wpEs,wpOr,wpAnd,↓tB,↓tD,↓tE,↓yA,↓yB,wpIt,wpBin,cmpV,eqO,eqV,inV,seqOf,wpIdx,wpSlc,wpBytes,wpLen,wpIndex,wpSetItem,wpSetAttr,wpAttr,initOf,methN,posOf,sizesL,kindsL,frees,putF,getN,zA,zB,zC,zD,zE,zF,zG,qA,qB,qC,qD,qE,qF,reduceCtorEq,↓reduceIte,qG,zH,zI,zJ,zK,zL,zM,zN,qH,qI,zO,zP,zQ,zR,qJ,zS,zT,Nat.reduceAdd,Nat.reduceLT,Int.reduceLT,Int.reduceLE,Int.reduceNeg,Int.reduceSub,Int.reduceMul,Int.reduceAdd,Int.reduceToNat,qO,qP,zU,zV,zW,zX,zY,zZ,aR1,aR2,aW1,aW2,aW3,aW4,aW5,aW6,aW7,aW8,aW9,aWa,aWb,qK,qL,qM,qN,ggA,ssA,ggB,ssB,ggC,ssC,ggD,ssD,ggE,ssE,ggF,ssF,ggG,ssG,ggH,ssH,ggI,ssI,ggJ,ssJ,ggK,ssK,rawF_len, d0]
  simp only [tl_read_retry_1, wpSs,↓xB,↓xD,↓xG,↓xJ,↓vC,↓vE,↓vF,↓vG,↓vH,↓vM,↓vO,↓vP,↓vU,↓wF,↓wH,↓wJ,wpEs,wpOr,wpAnd,↓tB,↓tD,↓tE,↓yA,↓yB,wpIt,wpBin,cmpV,eqO,eqV,inV,seqOf,wpIdx,wpSlc,wpBytes,wpLen,wpIndex,wpSetItem,wpSetAttr,wpAttr,initOf,methN,posOf,sizesL,kindsL,frees,putF,getN,zA,zB,zC,zD,zE,zF,zG,qA,qB,qC,qD,qE,qF,reduceCtorEq,↓reduceIte,qG,zH,zI,zJ,zK,zL,zM,zN,qH,qI,zO,zP,zQ,zR,qJ,zS,zT,Nat.reduceAdd,Nat.reduceLT,Int.reduceLT,Int.reduceLE,Int.reduceNeg,Int.reduceSub,Int.reduceMul,Int.reduceAdd,Int.reduceToNat,qO,qP,zU,zV,zW,zX,zY,zZ,aR1,aR2,aW1,aW2,aW3,aW4,aW5,aW6,aW7,aW8,aW9,aWa,aWb,qK,qL,qM,qN,ggA,ssA,ggB,ssB,ggC,ssC,ggD,ssD,ggE,ssE,ggF,ssF,ggG,ssG,ggH,ssH,ggI,ssI,ggJ,ssJ,ggK,ssK,rawF_len, e1, e2, e3, e4, e5, e, List.set_set]
  exact q _ (((Fr.refl h).push _).setIn (by simp) _) (e5 _ _)
theorem c_read_long_retry (bs : Base w B) (tb : Tabs B) {f ld ls : UInt8} {d s tok tag : List UInt8} {m : Nat} {h : H} {Q : K1} (hf : 240 ≤ f.toNat) (hd : ld.toNat = d.length) (hs : ls.toNat = s.length) (hd2 : d.length ≤ 20) (hs2 : s.length ≤ 20) (htag : tag.length = 16)
    (hm : 5 ≤ m) {D : List UInt8} (hD : D = f :: (beN 4 1 ++ (ld :: (d ++ (ls :: (s ++ (tok ++ tag)))))))
    (q : ∀ h' k vs, Fr [] h h' → h'[k]? = some (.inst .raw (rawF (.str .retry) (.int f.toNat) (.int 1) (.bytes d) (.bytes s) (.bytes tok) (.bytes tag) vs (.int 0) (.int 0) (.int D.length))) → Q (.obj k) h') :
    G w B m 242 [.bytes D, .int 0] h Q := by
  refine c_read_long_start bs tb (beN_length _ _) hd hs (by first | exact mm hm | exact m1 hm | decide | (first | lia | omega)) hD fun h1 k vs1 fr1 hk e1 => ?_
  have e0 : ofBe (beN 4 1) = 1 := by decide
  rw [e0] at e1 ⊢
  have hf2 := f.toNat_lt
  have d0 : decide ((d.length : Int) > 20) = false := by simp; (first | lia | omega)
  have d1 : decide ((s.length : Int) > 20) = false := by simp; (first | lia | omega)
  have d2 : decide ((f.toNat : Int) / 64 % 2 = 0) = false := by simp; (first | lia | omega)
  have d3 : ((f.toNat : Int) / 16 % 4).toNat = 3 := by (first | lia | omega)
  have hk1 := lt_of e1
  have e2 : ∀ o, (h1.set k o)[k]? = some o := fun o => get_set hk1
  have d4 : decide (((1 : Nat) : Int) = 0) = false := by decide
  have d5 : decide (((1 : Nat) : Int) = 1) = true := by decide
  simp only [tl_read_long_3, wpSs,↓xB,↓xD,↓xG,↓xI,↓xJ,↓vC,↓vD,↓vE,↓vF,↓vG,↓vH,↓vL,↓vM,↓vO,↓vP,↓vS,↓vT,↓vU,↓wF,↓wG,wpEs,wpOr,wpAnd,↓tA,↓tB,↓tD,↓tE,↓yA,↓yB,wpIt,wpBin,cmpV,eqO,eqV,inV,seqOf,wpIdx,wpSlc,wpBytes,wpLen,wpIndex,wpSetItem,wpSetAttr,wpAttr,initOf,methN,posOf,sizesL,kindsL,frees,putF,getN,zA,zB,zC,zD,zE,zF,zG,qA,qB,qC,qD,qE,qF,reduceCtorEq,↓reduceIte,qG,zH,zI,zJ,zK,zL,zM,zN,qH,qI,zO,zP,zQ,zR,qJ,zS,zT,Nat.reduceAdd,Nat.reduceLT,Int.reduceLT,Int.reduceLE,Int.reduceNeg,Int.reduceSub,Int.reduceMul,Int.reduceAdd,Int.reduceToNat,qO,qP,zU,zV,zW,zX,zY,zZ,aR1,aR2,aW1,aW2,aW3,aW4,aW5,aW6,aW7,aW8,aW9,aWa,aWb,qK,qL,qM,qN,ggA,ssA,ggB,ssB,ggC,ssC,ggD,ssD,ggE,ssE,ggF,ssF,ggG,ssG,ggH,ssH,ggI,ssI,ggJ,ssJ,ggK,ssK,rawF_len, d4]
  simp only [tl_read_long_4, wpSs,↓xB,↓xD,↓xG,↓xI,↓xJ,↓vC,↓vD,↓vE,↓vF,↓vG,↓vH,↓vL,↓vM,↓vO,↓vP,↓vS,↓vT,↓vU,↓wF,↓wG,wpEs,wpOr,wpAnd,↓tA,↓tB,↓tD,↓tE,↓yA,↓yB,wpIt,wpBin,cmpV,eqO,eqV,inV,seqOf,wpIdx,wpSlc,wpBytes,wpLen,wpIndex,wpSetItem,wpSetAttr,wpAttr,initOf,methN,posOf,sizesL,kindsL,frees,putF,getN,zA,zB,zC,zD,zE,zF,zG,qA,qB,qC,qD,qE,qF,reduceCtorEq,↓reduceIte,qG,zH,zI,zJ,zK,zL,zM,zN,qH,qI,zO,zP,zQ,zR,qJ,zS,zT,Nat.reduceAdd,Nat.reduceLT,Int.reduceLT,Int.reduceLE,Int.reduceNeg,Int.reduceSub,Int.reduceMul,Int.reduceAdd,Int.reduceToNat,qO,qP,zU,zV,zW,zX,zY,zZ,aR1,aR2,aW1,aW2,aW3,aW4,aW5,aW6,aW7,aW8,aW9,aWa,aWb,qK,qL,qM,qN,ggA,ssA,ggB,ssB,ggC,ssC,ggD,ssD,ggE,ssE,ggF,ssF,ggG,ssG,ggH,ssH,ggI,ssI,ggJ,ssJ,ggK,ssK,rawF_len, d5]
  simp only [tl_read_long_5, wpSs,↓xB,↓xD,↓xG,↓xI,↓xJ,↓vC,↓vD,↓vE,↓vF,↓vG,↓vH,↓vL,↓vM,↓vO,↓vP,↓vS,↓vT,↓vU,↓wF,↓wG,wpEs,wpOr,wpAnd,↓tA,↓tB,↓tD,↓tE,↓yA,↓yB,wpIt,wpBin,cmpV,eqO,eqV,inV,seqOf,wpIdx,wpSlc,wpBytes,wpLen,wpIndex,wpSetItem,wpSetAttr,wpAttr,initOf,methN,posOf,sizesL,kindsL,frees,putF,getN,zA,zB,zC,zD,zE,zF,zG,qA,qB,qC,qD,qE,qF,reduceCtorEq,↓reduceIte,qG,zH,zI,zJ,zK,zL,zM,zN,qH,qI,zO,zP,zQ,zR,qJ,zS,zT,Nat.reduceAdd,Nat.reduceLT,Int.reduceLT,Int.reduceLE,Int.reduceNeg,Int.reduceSub,Int.reduceMul,Int.reduceAdd,Int.reduceToNat,qO,qP,zU,zV,zW,zX,zY,zZ,aR1,aR2,aW1,aW2,aW3,aW4,aW5,aW6,aW7,aW8,aW9,aWa,aWb,qK,qL,qM,qN,ggA,ssA,ggB,ssB,ggC,ssC,ggD,ssD,ggE,ssE,ggF,ssF,ggG,ssG,ggH,ssH,ggI,ssI,ggJ,ssJ,ggK,ssK,rawF_len, d0, d1, d2]
  simp only [tl_read_long_6, wpSs,↓xB,↓xD,↓xG,↓xI,↓xJ,↓vC,↓vD,↓vE,↓vF,↓vG,↓vH,↓vL,↓vM,↓vO,↓vP,↓vS,↓vT,↓vU,↓wF,↓wG,wpEs,wpOr,wpAnd,↓tA,↓tB,↓tD,↓tE,↓yA,↓yB,wpIt,wpBin,cmpV,eqO,eqV,inV,seqOf,wpIdx,wpSlc,wpBytes,wpLen,wpIndex,wpSetItem,wpSetAttr,wpAttr,initOf,methN,posOf,sizesL,kindsL,frees,putF,getN,zA,zB,zC,zD,zE,zF,zG,qA,qB,qC,qD,qE,qF,reduceCtorEq,↓reduceIte,qG,zH,zI,zJ,zK,zL,zM,zN,qH,qI,zO,zP,zQ,zR,qJ,zS,zT,Nat.reduceAdd,Nat.reduceLT,Int.reduceLT,Int.reduceLE,Int.reduceNeg,Int.reduceSub,Int.reduceMul,Int.reduceAdd,Int.reduceToNat,qO,qP,zU,zV,zW,zX,zY,zZ,aR1,aR2,aW1,aW2,aW3,aW4,aW5,aW6,aW7,aW8,aW9,aWa,aWb,qK,qL,qM,qN,ggA,ssA,ggB,ssB,ggC,ssC,ggD,ssD,ggE,ssE,ggF,ssF,ggG,ssG,ggH,ssH,ggI,ssI,ggJ,ssJ,ggK,ssK,rawF_len, e1, e2, d3, aW1]
  have eD : D = (f :: (beN 4 1 ++ (ld :: (d ++ (ls :: s))))) ++ (tok ++ tag) := by rw [hD]; simp
  have eL : D.length - (tok ++ tag).length = (f :: (beN 4 1 ++ (ld :: (d ++ (ls :: s))))).length := by rw [eD, List.length_append]; (first | lia | omega)
  rw [eL]
  refine ⟨⟨by (first | lia | omega), by (first | lia | omega)⟩, ?_⟩
  have := c_read_retry bs tb (p := f :: (beN 4 1 ++ (ld :: (d ++ (ls :: s))))) (tok := tok) (tag := tag) (d := d) (s := s) (k := k) (m := m - 1) htag (e2 (.inst .raw (rawF (.str .retry) (.int f.toNat) (.int 1) (.bytes d) (.bytes s) (.bytes []) (.bytes []) vs1 (.int 0) (.int 0) (.int D.length)))) (by first | exact mm hm | exact m1 hm | decide | (first | lia | omega)) (Q := Q) fun h3 fr3 e3 => q h3 k vs1 ((fr1.setNew hk _).drop fr3 (by simpa using hk)) e3
  rw [← eD] at this
  exact this
theorem c_read_numbered (bs : Base w B) (tb : Tabs B) {p tok x d s : List UInt8} {bt : UInt8} {k m : Nat} {f ver vs st na en : V} {h : H} {Q : K1} (ht : bt.toNat = tok.length) (ht2 : tok.length < 64) (hx : x.length = 22)
    (e : h[k]? = some (.inst .raw (rawF (.str .initial) f ver (.bytes d) (.bytes s) (.bytes []) (.bytes []) vs st na en))) (hm : 4 ≤ m) {D : List UInt8} (hD : D = p ++ (bt :: (tok ++ (22 :: x))))
    (q : ∀ h' na', Fr [k] h h' → h'[k]? = some (.inst .raw (rawF (.str .initial) f ver (.bytes d) (.bytes s) (.bytes tok) (.bytes []) vs st na' (.int D.length))) → Q (.obj k) h') : G w B m 256 [.bytes D, .int p.length, .obj k] h Q := by
  refine fn_go bs tb (f_read_numbered _) (by first | exact mm hm | exact m1 hm | decide | (first | lia | omega)) [some (.bytes D), some (.int p.length), some (.obj k), none, none] rfl rfl ?_
  have hk := lt_of e
  simp only [b_read_numbered, wpSs,↓xB,↓xD,↓xG,↓xI,↓xJ,↓vC,↓vD,↓vE,↓vF,↓vH,↓vM,↓vO,↓vP,↓vT,↓vZ,↓wF,wpEs,wpOr,wpAnd,↓tA,↓tB,↓tD,↓tE,↓yA,↓yB,wpIt,wpBin,cmpV,eqO,eqV,inV,seqOf,wpIdx,wpSlc,wpBytes,wpLen,wpIndex,wpSetItem,wpSetAttr,wpAttr,initOf,methN,posOf,sizesL,kindsL,frees,putF,getN,zA,zB,zC,zD,zE,zF,zG,qA,qB,qC,qD,qE,qF,reduceCtorEq,↓reduceIte,qG,zH,zI,zJ,zK,zL,zM,zN,qH,qI,zO,zP,zQ,zR,qJ,zS,zT,Nat.reduceAdd,Nat.reduceLT,Int.reduceLT,Int.reduceLE,Int.reduceNeg,Int.reduceSub,Int.reduceMul,Int.reduceAdd,Int.reduceToNat,qO,qP,zU,zV,zW,zX,zY,zZ,aR1,aR2,aW1,aW2,aW3,aW4,aW5,aW6,aW7,aW8,aW9,aWa,aWb,qK,qL,qM,qN,ggA,ssA,ggB,ssB,ggC,ssC,ggD,ssD,ggE,ssE,ggF,ssF,ggG,ssG,ggH,ssH,ggI,ssI,ggJ,ssJ,ggK,ssK,rawF_len]
  refine c_reader_init bs tb (get_last _ _) (by first | exact mm hm | exact m1 hm | decide | (first | lia | omega)) fun h1 fr1 rd1 => ?_
  have f1 : Fr [k] h h1 := (Fr.app h _).dropS fr1 (by simp)
  have hkk : k ≠ h.length := by (first | lia | omega)
  have e1 := fr1.2 k _ (by rw [List.getElem?_append_left hk]; exact e) (by simpa using hkk)
  unfold RdAt at rd1
  have hk1 := lt_of rd1
  have e2 : ∀ o, (h1.set h.length o)[k]? = h1[k]? := fun o => by rw [List.getElem?_set_ne (Ne.symm hkk)]
  have e3 : ∀ o, (h1.set h.length o)[h.length]? = some o := fun o => get_set hk1
  simp only [tl_read_numbered_1, wpSs,↓xB,↓xD,↓xG,↓xI,↓xJ,↓vC,↓vD,↓vE,↓vF,↓vH,↓vM,↓vO,↓vP,↓vT,↓vZ,↓wF,wpEs,wpOr,wpAnd,↓tA,↓tB,↓tD,↓tE,↓yA,↓yB,wpIt,wpBin,cmpV,eqO,eqV,inV,seqOf,wpIdx,wpSlc,wpBytes,wpLen,wpIndex,wpSetItem,wpSetAttr,wpAttr,initOf,methN,posOf,sizesL,kindsL,frees,putF,getN,zA,zB,zC,zD,zE,zF,zG,qA,qB,qC,qD,qE,qF,reduceCtorEq,↓reduceIte,qG,zH,zI,zJ,zK,zL,zM,zN,qH,qI,zO,zP,zQ,zR,qJ,zS,zT,Nat.reduceAdd,Nat.reduceLT,Int.reduceLT,Int.reduceLE,Int.reduceNeg,Int.reduceSub,Int.reduceMul,Int.reduceAdd,Int.reduceToNat,qO,qP,zU,zV,zW,zX,zY,zZ,aR1,aR2,aW1,aW2,aW3,aW4,aW5,aW6,aW7,aW8,aW9,aWa,aWb,qK,qL,qM,qN,ggA,ssA,ggB,ssB,ggC,ssC,ggD,ssD,ggE,ssE,ggF,ssF,ggG,ssG,ggH,ssH,ggI,ssI,ggJ,ssJ,ggK,ssK,rawF_len, rd1, e2, e1, e3]
  have rd2 : RdS (h1.set h.length (O.inst C.reader [(N.data, V.bytes D), (N.at_, V.int p.length)])) h.length D (bt :: (tok ++ (22 :: x))) := ⟨p, hD, e3 _⟩
  have f2 : Fr [k] h (h1.set h.length (O.inst C.reader [(N.data, V.bytes D), (N.at_, V.int p.length)])) := f1.setS (.inr (Nat.le_refl _)) _
  refine c_varint bs tb rd2 (by first | exact mm hm | exact m1 hm | decide | (first | lia | omega)) (by first | exact mm hm | exact m1 hm | decide | (first | lia | omega)) fun h4 fr4 rd4 => ?_
  have f4 := f2.dropS fr4 (by simp)
  have e4 := fr4.2 k _ ((e2 _).trans e1) (by simpa using hkk)
  refine c_take bs tb (many := bt.toNat) rd4 (by first | exact mm hm | exact m1 hm | decide | (first | lia | omega)) (by first | exact mm hm | exact m1 hm | decide | (first | lia | omega)) fun h5 fr5 rd5 => ?_
  have f5 := f4.dropS fr5 (by simp)
  have e5 := fr5.2 k _ e4 (by simpa using hkk)
  have hk5 := lt_of e5
  obtain ⟨p5, hp5, r5⟩ := id rd5
  unfold RdAt at r5
  have e6 : ∀ o, (h5.set k o)[h.length]? = h5[h.length]? := fun o => by rw [List.getElem?_set_ne hkk]
  simp only [wpSs,↓xB,↓xD,↓xG,↓xI,↓xJ,↓vC,↓vD,↓vE,↓vF,↓vH,↓vM,↓vO,↓vP,↓vT,↓vZ,↓wF,wpEs,wpOr,wpAnd,↓tA,↓tB,↓tD,↓tE,↓yA,↓yB,wpIt,wpBin,cmpV,eqO,eqV,inV,seqOf,wpIdx,wpSlc,wpBytes,wpLen,wpIndex,wpSetItem,wpSetAttr,wpAttr,initOf,methN,posOf,sizesL,kindsL,frees,putF,getN,zA,zB,zC,zD,zE,zF,zG,qA,qB,qC,qD,qE,qF,reduceCtorEq,↓reduceIte,qG,zH,zI,zJ,zK,zL,zM,zN,qH,qI,zO,zP,zQ,zR,qJ,zS,zT,Nat.reduceAdd,Nat.reduceLT,Int.reduceLT,Int.reduceLE,Int.reduceNeg,Int.reduceSub,Int.reduceMul,Int.reduceAdd,Int.reduceToNat,qO,qP,zU,zV,zW,zX,zY,zZ,aR1,aR2,aW1,aW2,aW3,aW4,aW5,aW6,aW7,aW8,aW9,aWa,aWb,qK,qL,qM,qN,ggA,ssA,ggB,ssB,ggC,ssC,ggD,ssD,ggE,ssE,ggF,ssF,ggG,ssG,ggH,ssH,ggI,ssI,ggJ,ssJ,ggK,ssK,rawF_len, e5, e6, r5]
  have rd6 : ∀ o, RdS (h5.set k o) h.length D (22 :: x) := fun o => ⟨p5, hp5, (e6 o).trans r5⟩
  refine c_varint bs tb (rd6 _) (by decide) (by first | exact mm hm | exact m1 hm | decide | (first | lia | omega)) fun h7 fr7 rd7 => ?_
  have f7 := (f5.setS (k := k) (.inl (by simp)) (O.inst C.raw (rawF (.str .initial) f ver (.bytes d) (.bytes s) (.bytes tok) (.bytes []) vs st na en))).dropS fr7 (by simp)
  have e7 := fr7.2 k _ (get_set hk5) (by simpa using hkk)
  have hk7 := lt_of e7
  obtain ⟨p7, hp7, r7⟩ := id rd7
  unfold RdAt at r7
  simp only [tl_read_numbered_3, wpSs,↓xB,↓xD,↓xG,↓xI,↓xJ,↓vC,↓vD,↓vE,↓vF,↓vH,↓vM,↓vO,↓vP,↓vT,↓vZ,↓wF,wpEs,wpOr,wpAnd,↓tA,↓tB,↓tD,↓tE,↓yA,↓yB,wpIt,wpBin,cmpV,eqO,eqV,inV,seqOf,wpIdx,wpSlc,wpBytes,wpLen,wpIndex,wpSetItem,wpSetAttr,wpAttr,initOf,methN,posOf,sizesL,kindsL,frees,putF,getN,zA,zB,zC,zD,zE,zF,zG,qA,qB,qC,qD,qE,qF,reduceCtorEq,↓reduceIte,qG,zH,zI,zJ,zK,zL,zM,zN,qH,qI,zO,zP,zQ,zR,qJ,zS,zT,Nat.reduceAdd,Nat.reduceLT,Int.reduceLT,Int.reduceLE,Int.reduceNeg,Int.reduceSub,Int.reduceMul,Int.reduceAdd,Int.reduceToNat,qO,qP,zU,zV,zW,zX,zY,zZ,aR1,aR2,aW1,aW2,aW3,aW4,aW5,aW6,aW7,aW8,aW9,aWa,aWb,qK,qL,qM,qN,ggA,ssA,ggB,ssB,ggC,ssC,ggD,ssD,ggE,ssE,ggF,ssF,ggG,ssG,ggH,ssH,ggI,ssI,ggJ,ssJ,ggK,ssK,rawF_len, r7]
  refine c_left bs tb rd7 (by first | exact mm hm | exact m1 hm | decide | (first | lia | omega)) ?_
  have d0 : decide (((22 : UInt8).toNat : Int) > (x.length : Int)) = false := by rw [hx]; decide
  have e8 : ∀ o, (h7 ++ [o])[k]? = h7[k]? := fun o => by rw [List.getElem?_append_left hk7]
  have e9 : ∀ o o', ((h7 ++ [o]).set k o')[k]? = some o' := fun o o' => get_set (by simp; (first | lia | omega))
  simp only [wpSs,↓xB,↓xD,↓xG,↓xI,↓xJ,↓vC,↓vD,↓vE,↓vF,↓vH,↓vM,↓vO,↓vP,↓vT,↓vZ,↓wF,wpEs,wpOr,wpAnd,↓tA,↓tB,↓tD,↓tE,↓yA,↓yB,wpIt,wpBin,cmpV,eqO,eqV,inV,seqOf,wpIdx,wpSlc,wpBytes,wpLen,wpIndex,wpSetItem,wpSetAttr,wpAttr,initOf,methN,posOf,sizesL,kindsL,frees,putF,getN,zA,zB,zC,zD,zE,zF,zG,qA,qB,qC,qD,qE,qF,reduceCtorEq,↓reduceIte,qG,zH,zI,zJ,zK,zL,zM,zN,qH,qI,zO,zP,zQ,zR,qJ,zS,zT,Nat.reduceAdd,Nat.reduceLT,Int.reduceLT,Int.reduceLE,Int.reduceNeg,Int.reduceSub,Int.reduceMul,Int.reduceAdd,Int.reduceToNat,qO,qP,zU,zV,zW,zX,zY,zZ,aR1,aR2,aW1,aW2,aW3,aW4,aW5,aW6,aW7,aW8,aW9,aWa,aWb,qK,qL,qM,qN,ggA,ssA,ggB,ssB,ggC,ssC,ggD,ssD,ggE,ssE,ggF,ssF,ggG,ssG,ggH,ssH,ggI,ssI,ggJ,ssJ,ggK,ssK,rawF_len, d0]
  simp only [tl_read_numbered_4, wpSs,↓xB,↓xD,↓xG,↓xI,↓xJ,↓vC,↓vD,↓vE,↓vF,↓vH,↓vM,↓vO,↓vP,↓vT,↓vZ,↓wF,wpEs,wpOr,wpAnd,↓tA,↓tB,↓tD,↓tE,↓yA,↓yB,wpIt,wpBin,cmpV,eqO,eqV,inV,seqOf,wpIdx,wpSlc,wpBytes,wpLen,wpIndex,wpSetItem,wpSetAttr,wpAttr,initOf,methN,posOf,sizesL,kindsL,frees,putF,getN,zA,zB,zC,zD,zE,zF,zG,qA,qB,qC,qD,qE,qF,reduceCtorEq,↓reduceIte,qG,zH,zI,zJ,zK,zL,zM,zN,qH,qI,zO,zP,zQ,zR,qJ,zS,zT,Nat.reduceAdd,Nat.reduceLT,Int.reduceLT,Int.reduceLE,Int.reduceNeg,Int.reduceSub,Int.reduceMul,Int.reduceAdd,Int.reduceToNat,qO,qP,zU,zV,zW,zX,zY,zZ,aR1,aR2,aW1,aW2,aW3,aW4,aW5,aW6,aW7,aW8,aW9,aWa,aWb,qK,qL,qM,qN,ggA,ssA,ggB,ssB,ggC,ssC,ggD,ssD,ggE,ssE,ggF,ssF,ggG,ssG,ggH,ssH,ggI,ssI,ggJ,ssJ,ggK,ssK,rawF_len, r7, e8, e7, e9, List.set_set]
  have eL : ((p7.length : Int) + ((22 : UInt8).toNat : Int)) = (D.length : Int) := by
    have : D.length = p7.length + 22 := by rw [hp7, List.length_append, hx]
    rw [this]; rfl
  rw [eL]
  exact q _ (V.int p7.length) ((f7.push _).setIn (by simp) _) (e9 _ _)
theorem c_read_long_initial (bs : Base w B) (tb : Tabs B) {f ld ls bt : UInt8} {d s tok x : List UInt8} {m : Nat} {h : H} {Q : K1} (hf : 192 ≤ f.toNat ∧ f.toNat < 208) (hd : ld.toNat = d.length) (hs : ls.toNat = s.length) (hd2 : d.length ≤ 20) (hs2 : s.length ≤ 20)
    (ht : bt.toNat = tok.length) (ht2 : tok.length < 64) (hx : x.length = 22)
    (hm : 6 ≤ m) {D : List UInt8} (hD : D = f :: (beN 4 1 ++ (ld :: (d ++ (ls :: (s ++ (bt :: (tok ++ (22 :: x)))))))))
    (q : ∀ h' k vs na, Fr [] h h' → h'[k]? = some (.inst .raw (rawF (.str .initial) (.int f.toNat) (.int 1) (.bytes d) (.bytes s) (.bytes tok) (.bytes []) vs (.int 0) na (.int D.length))) → Q (.obj k) h') :
    G w B m 242 [.bytes D, .int 0] h Q := by
  refine c_read_long_start bs tb (beN_length _ _) hd hs (by first | exact mm hm | exact m1 hm | decide | (first | lia | omega)) hD fun h1 k vs1 fr1 hk e1 => ?_
  have e0 : ofBe (beN 4 1) = 1 := by decide
  rw [e0] at e1 ⊢
  have d0 : decide ((d.length : Int) > 20) = false := by simp; (first | lia | omega)
  have d1 : decide ((s.length : Int) > 20) = false := by simp; (first | lia | omega)
  have d2 : decide ((f.toNat : Int) / 64 % 2 = 0) = false := by simp; (first | lia | omega)
  have d3 : ((f.toNat : Int) / 16 % 4).toNat = 0 := by (first | lia | omega)
  have hk1 := lt_of e1
  have e2 : ∀ o, (h1.set k o)[k]? = some o := fun o => get_set hk1
  have d4 : decide (((1 : Nat) : Int) = 0) = false := by decide
  have d5 : decide (((1 : Nat) : Int) = 1) = true := by decide
  simp only [tl_read_long_3, wpSs,↓xB,↓xD,↓xG,↓xI,↓xJ,↓vC,↓vD,↓vE,↓vF,↓vG,↓vH,↓vL,↓vM,↓vO,↓vP,↓vS,↓vT,↓vU,↓wF,↓wG,wpEs,wpOr,wpAnd,↓tA,↓tB,↓tD,↓tE,↓yA,↓yB,wpIt,wpBin,cmpV,eqO,eqV,inV,seqOf,wpIdx,wpSlc,wpBytes,wpLen,wpIndex,wpSetItem,wpSetAttr,wpAttr,initOf,methN,posOf,sizesL,kindsL,frees,putF,getN,zA,zB,zC,zD,zE,zF,zG,qA,qB,qC,qD,qE,qF,reduceCtorEq,↓reduceIte,qG,zH,zI,zJ,zK,zL,zM,zN,qH,qI,zO,zP,zQ,zR,qJ,zS,zT,Nat.reduceAdd,Nat.reduceLT,Int.reduceLT,Int.reduceLE,Int.reduceNeg,Int.reduceSub,Int.reduceMul,Int.reduceAdd,Int.reduceToNat,qO,qP,zU,zV,zW,zX,zY,zZ,aR1,aR2,aW1,aW2,aW3,aW4,aW5,aW6,aW7,aW8,aW9,aWa,aWb,qK,qL,qM,qN,ggA,ssA,ggB,ssB,ggC,ssC,ggD,ssD,ggE,ssE,ggF,ssF,ggG,ssG,ggH,ssH,ggI,ssI,ggJ,ssJ,ggK,ssK,rawF_len, d4]
  simp only [tl_read_long_4, wpSs,↓xB,↓xD,↓xG,↓xI,↓xJ,↓vC,↓vD,↓vE,↓vF,↓vG,↓vH,↓vL,↓vM,↓vO,↓vP,↓vS,↓vT,↓vU,↓wF,↓wG,wpEs,wpOr,wpAnd,↓tA,↓tB,↓tD,↓tE,↓yA,↓yB,wpIt,wpBin,cmpV,eqO,eqV,inV,seqOf,wpIdx,wpSlc,wpBytes,wpLen,wpIndex,wpSetItem,wpSetAttr,wpAttr,initOf,methN,posOf,sizesL,kindsL,frees,putF,getN,zA,zB,zC,zD,zE,zF,zG,qA,qB,qC,qD,qE,qF,reduceCtorEq,↓reduceIte,qG,zH,zI,zJ,zK,zL,zM,zN,qH,qI,zO,zP,zQ,zR,qJ,zS,zT,Nat.reduceAdd,Nat.reduceLT,Int.reduceLT,Int.reduceLE,Int.reduceNeg,Int.reduceSub,Int.reduceMul,Int.reduceAdd,Int.reduceToNat,qO,qP,zU,zV,zW,zX,zY,zZ,aR1,aR2,aW1,aW2,aW3,aW4,aW5,aW6,aW7,aW8,aW9,aWa,aWb,qK,qL,qM,qN,ggA,ssA,ggB,ssB,ggC,ssC,ggD,ssD,ggE,ssE,ggF,ssF,ggG,ssG,ggH,ssH,ggI,ssI,ggJ,ssJ,ggK,ssK,rawF_len, d5]
  simp only [tl_read_long_5, wpSs,↓xB,↓xD,↓xG,↓xI,↓xJ,↓vC,↓vD,↓vE,↓vF,↓vG,↓vH,↓vL,↓vM,↓vO,↓vP,↓vS,↓vT,↓vU,↓wF,↓wG,wpEs,wpOr,wpAnd,↓tA,↓tB,↓tD,↓tE,↓yA,↓yB,wpIt,wpBin,cmpV,eqO,eqV,inV,seqOf,wpIdx,wpSlc,wpBytes,wpLen,wpIndex,wpSetItem,wpSetAttr,wpAttr,initOf,methN,posOf,sizesL,kindsL,frees,putF,getN,zA,zB,zC,zD,zE,zF,zG,qA,qB,qC,qD,qE,qF,reduceCtorEq,↓reduceIte,qG,zH,zI,zJ,zK,zL,zM,zN,qH,qI,zO,zP,zQ,zR,qJ,zS,zT,Nat.reduceAdd,Nat.reduceLT,Int.reduceLT,Int.reduceLE,Int.reduceNeg,Int.reduceSub,Int.reduceMul,Int.reduceAdd,Int.reduceToNat,qO,qP,zU,zV,zW,zX,zY,zZ,aR1,aR2,aW1,aW2,aW3,aW4,aW5,aW6,aW7,aW8,aW9,aWa,aWb,qK,qL,qM,qN,ggA,ssA,ggB,ssB,ggC,ssC,ggD,ssD,ggE,ssE,ggF,ssF,ggG,ssG,ggH,ssH,ggI,ssI,ggJ,ssJ,ggK,ssK,rawF_len, d0, d1, d2]
  simp only [tl_read_long_6, wpSs,↓xB,↓xD,↓xG,↓xI,↓xJ,↓vC,↓vD,↓vE,↓vF,↓vG,↓vH,↓vL,↓vM,↓vO,↓vP,↓vS,↓vT,↓vU,↓wF,↓wG,wpEs,wpOr,wpAnd,↓tA,↓tB,↓tD,↓tE,↓yA,↓yB,wpIt,wpBin,cmpV,eqO,eqV,inV,seqOf,wpIdx,wpSlc,wpBytes,wpLen,wpIndex,wpSetItem,wpSetAttr,wpAttr,initOf,methN,posOf,sizesL,kindsL,frees,putF,getN,zA,zB,zC,zD,zE,zF,zG,qA,qB,qC,qD,qE,qF,reduceCtorEq,↓reduceIte,qG,zH,zI,zJ,zK,zL,zM,zN,qH,qI,zO,zP,zQ,zR,qJ,zS,zT,Nat.reduceAdd,Nat.reduceLT,Int.reduceLT,Int.reduceLE,Int.reduceNeg,Int.reduceSub,Int.reduceMul,Int.reduceAdd,Int.reduceToNat,qO,qP,zU,zV,zW,zX,zY,zZ,aR1,aR2,aW1,aW2,aW3,aW4,aW5,aW6,aW7,aW8,aW9,aWa,aWb,qK,qL,qM,qN,ggA,ssA,ggB,ssB,ggC,ssC,ggD,ssD,ggE,ssE,ggF,ssF,ggG,ssG,ggH,ssH,ggI,ssI,ggJ,ssJ,ggK,ssK,rawF_len, e1, e2, d3, aW1]
  have eD : D = (f :: (beN 4 1 ++ (ld :: (d ++ (ls :: s))))) ++ (bt :: (tok ++ (22 :: x))) := by rw [hD]; simp
  have eL : ∀ z, D = z ++ (bt :: (tok ++ (22 :: x))) → D.length - (bt :: (tok ++ (22 :: x))).length = z.length := fun z hz => by rw [hz, List.length_append]; (first | lia | omega)
  rw [show D.length - ((tok ++ 22 :: x).length + 1) = (f :: (beN 4 1 ++ (ld :: (d ++ (ls :: s))))).length from eL _ eD]
  refine ⟨⟨by (first | lia | omega), by (first | lia | omega)⟩, ?_⟩
  exact c_read_numbered bs tb (p := f :: (beN 4 1 ++ (ld :: (d ++ (ls :: s))))) (tok := tok) (x := x) (d := d) (s := s) (k := k) (m := m - 1) (bt := bt) ht ht2 hx (e2 (.inst .raw (rawF (.str .initial) (.int f.toNat) (.int 1) (.bytes d) (.bytes s) (.bytes []) (.bytes []) vs1 (.int 0) (.int 0) (.int D.length)))) (by first | exact mm hm | exact m1 hm | decide | (first | lia | omega)) eD (Q := Q) fun h3 na fr3 e3 => q h3 k vs1 na ((fr1.setNew hk _).drop fr3 (by simpa using hk)) e3
end
end Mine
end
section
set_option maxRecDepth 100000
set_option maxHeartbeats 2000000
set_option backward.match.sparseCases false
set_option linter.all false
namespace Mine
open PySem PySem.W
noncomputable def RawOk (h : H) (k : Nat) (kd f ver : V) (d s tok tag D : List UInt8) : Prop := ∃ vs na, h[k]? = some (.inst .raw (rawF kd f ver (.bytes d) (.bytes s) (.bytes tok) (.bytes tag) vs (.int 0) na (.int D.length)))
theorem RawOk.fr {S : List Nat} {h h' : H} {k : Nat} {kd f ver : V} {d s tok tag D : List UInt8} (x : RawOk h k kd f ver d s tok tag D) (fr : Fr S h h') (hk : k ∉ S) : RawOk h' k kd f ver d s tok tag D := by
  obtain ⟨vs, na, e⟩ := x
  exact ⟨vs, na, fr.2 _ _ e hk⟩
section
variable {w : World} {B : Heap}
theorem c_read_raw (bs : Base w B) (tb : Tabs B) {f : UInt8} {D : List UInt8} {m : Nat} {h : H} {Q : K1} (hf : 128 ≤ f.toNat) (hm : 1 ≤ m) (q : G w B (m - 1) 242 [.bytes (f :: D), .int 0] h Q) : G w B m 270 [.bytes (f :: D), .int 0, .int 4] h Q := by
  refine fn_go bs tb (f_read_raw _) hm [some (.bytes (f :: D)), some (.int 0), some (.int 4)] rfl rfl ?_
  have d0 : decide ((f.toNat : Int) ≥ 128) = true := by simp; (first | lia | omega)
  simp only [b_read_raw, wpSs,↓xD,↓xG,↓vC,↓vE,↓vF,↓vM,↓vO,↓vS,↓wG,wpEs,wpOr,wpAnd,↓tD,wpIt,wpBin,cmpV,eqO,eqV,inV,seqOf,wpIdx,wpSlc,wpBytes,wpLen,wpIndex,wpSetItem,wpSetAttr,wpAttr,initOf,methN,posOf,sizesL,kindsL,frees,putF,getN,zA,zB,zC,zD,zE,zF,zG,qA,qB,qC,qD,qE,qF,reduceCtorEq,↓reduceIte,qG,zH,zI,zJ,zK,zL,zM,zN,qH,qI,zO,zP,zQ,zR,qJ,zS,zT,Nat.reduceAdd,Nat.reduceLT,Int.reduceLT,Int.reduceLE,Int.reduceNeg,Int.reduceSub,Int.reduceMul,Int.reduceAdd,Int.reduceToNat,qO,qP,zU,zV,zW,zX,zY,zZ,aR1,aR2,aW1,aW2,aW3,aW4,aW5,aW6,aW7,aW8,aW9,aWa,aWb,qK,qL,qM,qN,ggA,ssA,ggB,ssB,ggC,ssC,ggD,ssD,ggE,ssE,ggF,ssF,ggG,ssG,ggH,ssH,ggI,ssI,ggJ,ssJ,ggK,ssK,rawF_len, d0]
  exact ⟨⟨by (first | lia | omega), by (first | lia | omega)⟩, q⟩
theorem split_step (bs : Base w B) (tb : Tabs B) {f : UInt8} {D : List UInt8} {kd fv ver : V} {d s tok tag : List UInt8} {kf m : Nat} {h1 : H} {K : K2} (hf : 128 ≤ f.toNat) (hm : 2 ≤ m) (e1 : h1[kf]? = some (.list []))
    (rd : ∀ (h : H) (Q : K1), (∀ h' k, Fr [] h h' → RawOk h' k kd fv ver d s tok tag (f :: D) → Q (.obj k) h') → G w B (m - 1) 242 [.bytes (f :: D), .int 0] h Q)
    (q : ∀ h2 k, Fr [kf] h1 h2 → h2[kf]? = some (.list [.obj k]) → RawOk h2 k kd fv ver d s tok tag (f :: D) → K .next [some (.bytes (f :: D)), some (.int 4), some (.obj kf), some (.int ((f :: D).length : Nat)), some (.obj k)] h2) :
    wpSs (G w B m) lb_split_datagram_0 [some (.bytes (f :: D)), some (.int 4), some (.obj kf), some (.int 0), none] h1 K := by
  simp only [lb_split_datagram_0, wpSs,↓xA,↓xB,↓xD,↓xE,↓xG,↓xI,↓vC,↓vE,↓vF,↓vL,↓vM,↓vO,↓vP,↓vQ,↓vS,↓vU,↓wA,↓wF,↓wG,wpEs,wpOr,wpAnd,↓tA,↓tB,↓tC,↓tD,↓tE,↓yA,↓yB,wpIt,wpBin,cmpV,eqO,eqV,inV,seqOf,wpIdx,wpSlc,wpBytes,wpLen,wpIndex,wpSetItem,wpSetAttr,wpAttr,initOf,methN,posOf,sizesL,kindsL,frees,putF,getN,zA,zB,zC,zD,zE,zF,zG,qA,qB,qC,qD,qE,qF,reduceCtorEq,↓reduceIte,qG,zH,zI,zJ,zK,zL,zM,zN,qH,qI,zO,zP,zQ,zR,qJ,zS,zT,Nat.reduceAdd,Nat.reduceLT,Int.reduceLT,Int.reduceLE,Int.reduceNeg,Int.reduceSub,Int.reduceMul,Int.reduceAdd,Int.reduceToNat,qO,qP,zU,zV,zW,zX,zY,zZ,aR1,aR2,aW1,aW2,aW3,aW4,aW5,aW6,aW7,aW8,aW9,aWa,aWb,qK,qL,qM,qN,ggA,ssA,ggB,ssB,ggC,ssC,ggD,ssD,ggE,ssE,ggF,ssF,ggG,ssG,ggH,ssH,ggI,ssI,ggJ,ssJ,ggK,ssK,rawF_len]
  refine c_read_raw bs tb hf (by first | exact mm hm | exact m1 hm | decide | (first | lia | omega)) (rd h1 _ fun h2 k fr2 r2 => ?_)
  have e2 := fr2.2 _ _ e1 (by simp)
  have hk2 := lt_of e2
  obtain ⟨vs, na, er⟩ := id r2
  have hne : kf ≠ k := by rintro rfl; rw [e2] at er; cases er
  have er2 : ∀ o, (h2.set kf o)[k]? = h2[k]? := fun o => by rw [List.getElem?_set_ne hne]
  have d1 : decide (((0 : Nat) : Int) = 0) = true := by decide
  simp only [tl_lb_split_datagram_0_1, wpSs,↓xA,↓xB,↓xD,↓xE,↓xG,↓xI,↓vC,↓vE,↓vF,↓vL,↓vM,↓vO,↓vP,↓vQ,↓vS,↓vU,↓wA,↓wF,↓wG,wpEs,wpOr,wpAnd,↓tA,↓tB,↓tC,↓tD,↓tE,↓yA,↓yB,wpIt,wpBin,cmpV,eqO,eqV,inV,seqOf,wpIdx,wpSlc,wpBytes,wpLen,wpIndex,wpSetItem,wpSetAttr,wpAttr,initOf,methN,posOf,sizesL,kindsL,frees,putF,getN,zA,zB,zC,zD,zE,zF,zG,qA,qB,qC,qD,qE,qF,reduceCtorEq,↓reduceIte,qG,zH,zI,zJ,zK,zL,zM,zN,qH,qI,zO,zP,zQ,zR,qJ,zS,zT,Nat.reduceAdd,Nat.reduceLT,Int.reduceLT,Int.reduceLE,Int.reduceNeg,Int.reduceSub,Int.reduceMul,Int.reduceAdd,Int.reduceToNat,qO,qP,zU,zV,zW,zX,zY,zZ,aR1,aR2,aW1,aW2,aW3,aW4,aW5,aW6,aW7,aW8,aW9,aWa,aWb,qK,qL,qM,qN,ggA,ssA,ggB,ssB,ggC,ssC,ggD,ssD,ggE,ssE,ggF,ssF,ggG,ssG,ggH,ssH,ggI,ssI,ggJ,ssJ,ggK,ssK,rawF_len, e2, d1]
  refine ⟨by decide, ?_⟩
  simp only [tl_lb_split_datagram_0_2, wpSs,↓xA,↓xB,↓xD,↓xE,↓xG,↓xI,↓vC,↓vE,↓vF,↓vL,↓vM,↓vO,↓vP,↓vQ,↓vS,↓vU,↓wA,↓wF,↓wG,wpEs,wpOr,wpAnd,↓tA,↓tB,↓tC,↓tD,↓tE,↓yA,↓yB,wpIt,wpBin,cmpV,eqO,eqV,inV,seqOf,wpIdx,wpSlc,wpBytes,wpLen,wpIndex,wpSetItem,wpSetAttr,wpAttr,initOf,methN,posOf,sizesL,kindsL,frees,putF,getN,zA,zB,zC,zD,zE,zF,zG,qA,qB,qC,qD,qE,qF,reduceCtorEq,↓reduceIte,qG,zH,zI,zJ,zK,zL,zM,zN,qH,qI,zO,zP,zQ,zR,qJ,zS,zT,Nat.reduceAdd,Nat.reduceLT,Int.reduceLT,Int.reduceLE,Int.reduceNeg,Int.reduceSub,Int.reduceMul,Int.reduceAdd,Int.reduceToNat,qO,qP,zU,zV,zW,zX,zY,zZ,aR1,aR2,aW1,aW2,aW3,aW4,aW5,aW6,aW7,aW8,aW9,aWa,aWb,qK,qL,qM,qN,ggA,ssA,ggB,ssB,ggC,ssC,ggD,ssD,ggE,ssE,ggF,ssF,ggG,ssG,ggH,ssH,ggI,ssI,ggJ,ssJ,ggK,ssK,rawF_len, er2, er]
  refine q _ k ((fr2.mono (by simp)).setIn (by simp) _) (get_set hk2) ⟨vs, na, ?_⟩
  rw [er2, er]
theorem c_split (bs : Base w B) (tb : Tabs B) {f : UInt8} {D : List UInt8} {kd fv ver : V} {d s tok tag : List UInt8} {m : Nat} {h : H} {Q : K1} (hf : 128 ≤ f.toNat) (hm : 3 ≤ m)
    (rd : ∀ (h : H) (Q : K1), (∀ h' k, Fr [] h h' → RawOk h' k kd fv ver d s tok tag (f :: D) → Q (.obj k) h') → G w B (m - 2) 242 [.bytes (f :: D), .int 0] h Q)
    (q : ∀ h' kf kr, Fr [] h h' → h'[kf]? = some (.list [.obj kr]) → RawOk h' kr kd fv ver d s tok tag (f :: D) → Q (.obj kf) h') : G w B m 277 [.bytes (f :: D), .int 4] h Q := by
  refine fn_go bs tb (f_split_datagram _) (by first | exact mm hm | exact m1 hm | decide | (first | lia | omega)) [some (.bytes (f :: D)), some (.int 4), none, none, none] rfl rfl ?_
  simp only [b_split_datagram, wpSs,↓xB,↓xE,↓xG,↓xI,↓vC,↓vE,↓vF,↓vM,↓vP,↓vQ,↓vS,↓vU,wpEs,wpOr,wpAnd,↓tA,↓tB,↓tC,↓tD,↓yA,↓yB,wpIt,wpBin,cmpV,eqO,eqV,inV,seqOf,wpIdx,wpSlc,wpBytes,wpLen,wpIndex,wpSetItem,wpSetAttr,wpAttr,initOf,methN,posOf,sizesL,kindsL,frees,putF,getN,zA,zB,zC,zD,zE,zF,zG,qA,qB,qC,qD,qE,qF,reduceCtorEq,↓reduceIte,qG,zH,zI,zJ,zK,zL,zM,zN,qH,qI,zO,zP,zQ,zR,qJ,zS,zT,Nat.reduceAdd,Nat.reduceLT,Int.reduceLT,Int.reduceLE,Int.reduceNeg,Int.reduceSub,Int.reduceMul,Int.reduceAdd,Int.reduceToNat,qO,qP,zU,zV,zW,zX,zY,zZ,aR1,aR2,aW1,aW2,aW3,aW4,aW5,aW6,aW7,aW8,aW9,aWa,aWb,qK,qL,qM,qN,ggA,ssA,ggB,ssB,ggC,ssC,ggD,ssD,ggE,ssE,ggF,ssF,ggG,ssG,ggH,ssH,ggI,ssI,ggJ,ssJ,ggK,ssK,rawF_len]
  rw [tl_split_datagram_1, wpSs]
  dsimp only [xE]
  refine ⟨fun n l h' => (n = 1 ∧ l = [some (.bytes (f :: D)), some (.int 4), some (.obj h.length), some (.int 0), none] ∧ Fr [] h h' ∧ h'[h.length]? = some (.list [])) ∨
    (n = 0 ∧ ∃ kr, l = [some (.bytes (f :: D)), some (.int 4), some (.obj h.length), some (.int ((f :: D).length : Nat)), some (.obj kr)] ∧ Fr [] h h' ∧ h'[h.length]? = some (.list [.obj kr]) ∧ RawOk h' kr kd fv ver d s tok tag (f :: D)),
    ⟨1, .inl ⟨rfl, rfl, ((Fr.refl h).push _).push _, get_last2 _ _ _⟩⟩, ?_⟩
  rintro n l h1 (⟨rfl, rfl, f1, e1⟩ | ⟨rfl, kr, rfl, f1, e1, r1⟩)
  · have d0 : decide ((0 : Int) < ((D.length + 1 : Nat) : Int)) = true := decide_eq_true (by first | exact mm hm | exact m1 hm | decide | (first | lia | omega))
    simp only [wpSs,↓xB,↓xE,↓xG,↓xI,↓vC,↓vE,↓vF,↓vM,↓vP,↓vQ,↓vS,↓vU,wpEs,wpOr,wpAnd,↓tA,↓tB,↓tC,↓tD,↓yA,↓yB,wpIt,wpBin,cmpV,eqO,eqV,inV,seqOf,wpIdx,wpSlc,wpBytes,wpLen,wpIndex,wpSetItem,wpSetAttr,wpAttr,initOf,methN,posOf,sizesL,kindsL,frees,putF,getN,zA,zB,zC,zD,zE,zF,zG,qA,qB,qC,qD,qE,qF,reduceCtorEq,↓reduceIte,qG,zH,zI,zJ,zK,zL,zM,zN,qH,qI,zO,zP,zQ,zR,qJ,zS,zT,Nat.reduceAdd,Nat.reduceLT,Int.reduceLT,Int.reduceLE,Int.reduceNeg,Int.reduceSub,Int.reduceMul,Int.reduceAdd,Int.reduceToNat,qO,qP,zU,zV,zW,zX,zY,zZ,aR1,aR2,aW1,aW2,aW3,aW4,aW5,aW6,aW7,aW8,aW9,aWa,aWb,qK,qL,qM,qN,ggA,ssA,ggB,ssB,ggC,ssC,ggD,ssD,ggE,ssE,ggF,ssF,ggG,ssG,ggH,ssH,ggI,ssI,ggJ,ssJ,ggK,ssK,rawF_len, d0]
    refine split_step bs tb hf (by first | exact mm hm | exact m1 hm | decide | (first | lia | omega)) e1 (by rw [show m - 1 - 1 = m - 2 by (first | lia | omega)]; exact rd) fun h2 k fr2 e2 r2 => ?_
    exact ⟨0, by (first | lia | omega), .inr ⟨rfl, k, rfl, f1.drop fr2 (by simp), e2, r2⟩⟩
  · have d0 : decide (((D.length + 1 : Nat) : Int) < ((D.length + 1 : Nat) : Int)) = false := decide_eq_false (by first | exact mm hm | exact m1 hm | decide | (first | lia | omega))
    simp only [wpSs,↓xB,↓xE,↓xG,↓xI,↓vC,↓vE,↓vF,↓vM,↓vP,↓vQ,↓vS,↓vU,wpEs,wpOr,wpAnd,↓tA,↓tB,↓tC,↓tD,↓yA,↓yB,wpIt,wpBin,cmpV,eqO,eqV,inV,seqOf,wpIdx,wpSlc,wpBytes,wpLen,wpIndex,wpSetItem,wpSetAttr,wpAttr,initOf,methN,posOf,sizesL,kindsL,frees,putF,getN,zA,zB,zC,zD,zE,zF,zG,qA,qB,qC,qD,qE,qF,reduceCtorEq,↓reduceIte,qG,zH,zI,zJ,zK,zL,zM,zN,qH,qI,zO,zP,zQ,zR,qJ,zS,zT,Nat.reduceAdd,Nat.reduceLT,Int.reduceLT,Int.reduceLE,Int.reduceNeg,Int.reduceSub,Int.reduceMul,Int.reduceAdd,Int.reduceToNat,qO,qP,zU,zV,zW,zX,zY,zZ,aR1,aR2,aW1,aW2,aW3,aW4,aW5,aW6,aW7,aW8,aW9,aWa,aWb,qK,qL,qM,qN,ggA,ssA,ggB,ssB,ggC,ssC,ggD,ssD,ggE,ssE,ggF,ssF,ggG,ssG,ggH,ssH,ggI,ssI,ggJ,ssJ,ggK,ssK,rawF_len, d0]
    exact q _ _ kr f1 e1 r1
theorem allInt_map (vs : List Int) : allInt (vs.map .int) = true := by
  induction vs with
  | nil => rfl
  | cons v vs ih => exact ih
theorem contains_map (vs : List Int) (a : Int) : (vs.map V.int).contains (.int a) = decide (a ∈ vs) := by
  rw [Bool.eq_iff_iff]
  simp
theorem c_wants (bs : Base w B) (tb : Tabs B) {kd : N} {f : V} {d s tok tag D : List UInt8} {kr kk m : Nat} {v size : Int} {h : H} {Q : K1} (r : RawOk h kr (.str kd) f (.int v) d s tok tag D) (e : h[kk]? = some (.list [.int 1])) (hm : 1 ≤ m)
    (q : Q (.bool (decide (kd = .unknown) && (decide (v ≠ 1) && decide (1200 ≤ size)))) h) : G w B m 352 [.obj kr, .int size, .obj kk] h Q := by
  refine fn_go bs tb (f_wants_negotiation _) hm [some (.obj kr), some (.int size), some (.obj kk)] rfl rfl ?_
  obtain ⟨vs, na, er⟩ := r
  simp only [b_wants_negotiation, wpSs,↓xG,↓vB,↓vC,↓vD,↓vF,↓vG,↓vK,↓vM,↓wF,wpEs,wpOr,wpAnd,↓tD,↓tE,wpIt,wpBin,cmpV,eqO,eqV,inV,seqOf,wpIdx,wpSlc,wpBytes,wpLen,wpIndex,wpSetItem,wpSetAttr,wpAttr,initOf,methN,posOf,sizesL,kindsL,frees,putF,getN,zA,zB,zC,zD,zE,zF,zG,qA,qB,qC,qD,qE,qF,reduceCtorEq,↓reduceIte,qG,zH,zI,zJ,zK,zL,zM,zN,qH,qI,zO,zP,zQ,zR,qJ,zS,zT,Nat.reduceAdd,Nat.reduceLT,Int.reduceLT,Int.reduceLE,Int.reduceNeg,Int.reduceSub,Int.reduceMul,Int.reduceAdd,Int.reduceToNat,qO,qP,zU,zV,zW,zX,zY,zZ,aR1,aR2,aW1,aW2,aW3,aW4,aW5,aW6,aW7,aW8,aW9,aWa,aWb,qK,qL,qM,qN,ggA,ssA,ggB,ssB,ggC,ssC,ggD,ssD,ggE,ssE,ggF,ssF,ggG,ssG,ggH,ssH,ggI,ssI,ggJ,ssJ,ggK,ssK,rawF_len, er, e]
  have e1 : allInt [V.int 1] = true := rfl
  have e2 : [V.int 1].contains (V.int v) = decide (v = 1) := by
    have := contains_map [1] v
    simp only [List.map_cons, List.map_nil] at this
    rw [this]; simp
  simp only [e1, e2, wpSs,↓xG,↓vB,↓vC,↓vD,↓vF,↓vG,↓vK,↓vM,↓wF,wpEs,wpOr,wpAnd,↓tD,↓tE,wpIt,wpBin,cmpV,eqO,eqV,inV,seqOf,wpIdx,wpSlc,wpBytes,wpLen,wpIndex,wpSetItem,wpSetAttr,wpAttr,initOf,methN,posOf,sizesL,kindsL,frees,putF,getN,zA,zB,zC,zD,zE,zF,zG,qA,qB,qC,qD,qE,qF,reduceCtorEq,↓reduceIte,qG,zH,zI,zJ,zK,zL,zM,zN,qH,qI,zO,zP,zQ,zR,qJ,zS,zT,Nat.reduceAdd,Nat.reduceLT,Int.reduceLT,Int.reduceLE,Int.reduceNeg,Int.reduceSub,Int.reduceMul,Int.reduceAdd,Int.reduceToNat,qO,qP,zU,zV,zW,zX,zY,zZ,aR1,aR2,aW1,aW2,aW3,aW4,aW5,aW6,aW7,aW8,aW9,aWa,aWb,qK,qL,qM,qN,ggA,ssA,ggB,ssB,ggC,ssC,ggD,ssD,ggE,ssE,ggF,ssF,ggG,ssG,ggH,ssH,ggI,ssI,ggJ,ssJ,ggK,ssK,rawF_len]
  refine (iteF (fun hh => ?_) (fun hh => (iteF (fun h2 => ?_) (fun h2 => ?_))))
  · rw [hh] at q; simpa using q
  · rw [hh] at q
    have : decide (v = 1) = true := by simpa using h2
    have h3 : v = 1 := of_decide_eq_true this
    subst h3
    simpa using q
  · rw [hh] at q
    have : decide (v = 1) = false := by simpa using h2
    have h3 : v ≠ 1 := of_decide_eq_false this
    simpa [h3] using q
theorem c_bare_retry (bs : Base w B) (tb : Tabs B) {f ver : V} {d s tok tag D : List UInt8} {kr m : Nat} {h : H} {Q : K1} (r : RawOk h kr (.str .retry) f ver d s tok tag D) (hm : 1 ≤ m)
    (q : ∀ h' k, Fr [] h h' → h'[k]? = some (.tup [.str .retry, ver, .bytes d, .bytes s, .bytes tok, .bytes tag]) → Q (.obj k) h') : G w B m 450 [.obj kr] h Q := by
  refine fn_go bs tb (f_bare_packet _) hm [some (.obj kr)] rfl rfl ?_
  obtain ⟨vs, na, er⟩ := r
  simp only [b_bare_packet, wpSs,↓xD,↓xG,↓vD,↓vE,↓vF,↓vM,↓vO,↓vP,↓wF,wpEs,wpOr,wpAnd,↓tB,↓tD,↓tE,↓yA,↓yB,wpIt,wpBin,cmpV,eqO,eqV,inV,seqOf,wpIdx,wpSlc,wpBytes,wpLen,wpIndex,wpSetItem,wpSetAttr,wpAttr,initOf,methN,posOf,sizesL,kindsL,frees,putF,getN,zA,zB,zC,zD,zE,zF,zG,qA,qB,qC,qD,qE,qF,reduceCtorEq,↓reduceIte,qG,zH,zI,zJ,zK,zL,zM,zN,qH,qI,zO,zP,zQ,zR,qJ,zS,zT,Nat.reduceAdd,Nat.reduceLT,Int.reduceLT,Int.reduceLE,Int.reduceNeg,Int.reduceSub,Int.reduceMul,Int.reduceAdd,Int.reduceToNat,qO,qP,zU,zV,zW,zX,zY,zZ,aR1,aR2,aW1,aW2,aW3,aW4,aW5,aW6,aW7,aW8,aW9,aWa,aWb,qK,qL,qM,qN,ggA,ssA,ggB,ssB,ggC,ssC,ggD,ssD,ggE,ssE,ggF,ssF,ggG,ssG,ggH,ssH,ggI,ssI,ggJ,ssJ,ggK,ssK,rawF_len, er]
  exact q _ _ (Fr.app _ _) (get_last _ _)
theorem c_bare_neg (bs : Base w B) (tb : Tabs B) {f ver vs st na en : V} {d s : List UInt8} {kr m : Nat} {h : H} {Q : K1} (er : h[kr]? = some (.inst .raw (rawF (.str .negotiation) f ver (.bytes d) (.bytes s) (.bytes []) (.bytes []) vs st na en))) (hm : 1 ≤ m)
    (q : ∀ h' k, Fr [] h h' → h'[k]? = some (.tup [.str .negotiation, .bytes d, .bytes s, vs]) → Q (.obj k) h') : G w B m 450 [.obj kr] h Q := by
  refine fn_go bs tb (f_bare_packet _) hm [some (.obj kr)] rfl rfl ?_
  simp only [b_bare_packet, wpSs,↓xD,↓xG,↓vA,↓vC,↓vD,↓vE,↓vF,↓vM,↓vO,↓vP,↓wF,wpEs,wpOr,wpAnd,↓tB,↓tD,↓tE,↓yA,↓yB,wpIt,wpBin,cmpV,eqO,eqV,inV,seqOf,wpIdx,wpSlc,wpBytes,wpLen,wpIndex,wpSetItem,wpSetAttr,wpAttr,initOf,methN,posOf,sizesL,kindsL,frees,putF,getN,zA,zB,zC,zD,zE,zF,zG,qA,qB,qC,qD,qE,qF,reduceCtorEq,↓reduceIte,qG,zH,zI,zJ,zK,zL,zM,zN,qH,qI,zO,zP,zQ,zR,qJ,zS,zT,Nat.reduceAdd,Nat.reduceLT,Int.reduceLT,Int.reduceLE,Int.reduceNeg,Int.reduceSub,Int.reduceMul,Int.reduceAdd,Int.reduceToNat,qO,qP,zU,zV,zW,zX,zY,zZ,aR1,aR2,aW1,aW2,aW3,aW4,aW5,aW6,aW7,aW8,aW9,aWa,aWb,qK,qL,qM,qN,ggA,ssA,ggB,ssB,ggC,ssC,ggD,ssD,ggE,ssE,ggF,ssF,ggG,ssG,ggH,ssH,ggI,ssI,ggJ,ssJ,ggK,ssK,rawF_len, er]
  simp only [tl_bare_packet_1, wpSs,↓xD,↓xG,↓vA,↓vC,↓vD,↓vE,↓vF,↓vM,↓vO,↓vP,↓wF,wpEs,wpOr,wpAnd,↓tB,↓tD,↓tE,↓yA,↓yB,wpIt,wpBin,cmpV,eqO,eqV,inV,seqOf,wpIdx,wpSlc,wpBytes,wpLen,wpIndex,wpSetItem,wpSetAttr,wpAttr,initOf,methN,posOf,sizesL,kindsL,frees,putF,getN,zA,zB,zC,zD,zE,zF,zG,qA,qB,qC,qD,qE,qF,reduceCtorEq,↓reduceIte,qG,zH,zI,zJ,zK,zL,zM,zN,qH,qI,zO,zP,zQ,zR,qJ,zS,zT,Nat.reduceAdd,Nat.reduceLT,Int.reduceLT,Int.reduceLE,Int.reduceNeg,Int.reduceSub,Int.reduceMul,Int.reduceAdd,Int.reduceToNat,qO,qP,zU,zV,zW,zX,zY,zZ,aR1,aR2,aW1,aW2,aW3,aW4,aW5,aW6,aW7,aW8,aW9,aWa,aWb,qK,qL,qM,qN,ggA,ssA,ggB,ssB,ggC,ssC,ggD,ssD,ggE,ssE,ggF,ssF,ggG,ssG,ggH,ssH,ggI,ssI,ggJ,ssJ,ggK,ssK,rawF_len, er]
  exact q _ _ (Fr.app _ _) (get_last _ _)
/- ==== chosen_version ==== -/
noncomputable def chosenR (ign : Bool) (kn vs : List Int) : List V := if ign then [.str .ignore, .none] else match kn.find? (fun v => decide (v ∈ vs)) with
  | some x => [.str .use, .int x]
  | none => [.str .give_up, .none]
theorem chosen_loop {Γ : Nat → List V → H → K1 → Prop} {a b c d e f g i j : Option V} {kv : Nat} {vs : List Int} {okH : H → Prop} {h : H} {Q : K2} (ev : h[kv]? = some (.list (vs.map .int))) (hok : okH h) : ∀ (kn : List Int) (x : Option V),
      (match kn.find? (fun v => decide (v ∈ vs)) with
        | some x => ∀ l, Q (.ret (.obj h.length)) l (h ++ [.tup [.str .use, .int x]])
        | none => ∀ x', Q .next [a, b, c, d, e, f, g, i, j, some (.obj kv), x'] h) →
      wpFor (fun l2 h2 Q2 => wpSs Γ lb_chosen_version_0 l2 h2 Q2) 10 okH (kn.map .int) [a, b, c, d, e, f, g, i, j, some (.obj kv), x] h Q
  | [], x, q => q x
  | v :: kn, x, q => by
    refine ⟨by simp, ?_⟩
    rw [List.find?_cons] at q
    have step : ∀ K : K2, (decide (v ∈ vs) = true → ∀ l, K (.ret (.obj h.length)) l (h ++ [.tup [.str .use, .int v]])) → (decide (v ∈ vs) = false → K .next [a, b, c, d, e, f, g, i, j, some (.obj kv), some (.int v)] h) →
        wpSs Γ lb_chosen_version_0 [a, b, c, d, e, f, g, i, j, some (.obj kv), some (.int v)] h K := fun K k1 k2 => by
      simp only [lb_chosen_version_0, wpSs,↓xB,↓xD,↓xF,↓xG,↓vA,↓vC,↓vD,↓vF,↓vL,↓vM,↓vO,↓vP,wpEs,wpOr,wpAnd,↓tB,↓tD,↓yA,↓yB,wpIt,wpBin,cmpV,eqO,eqV,inV,seqOf,wpIdx,wpSlc,wpBytes,wpLen,wpIndex,wpSetItem,wpSetAttr,wpAttr,initOf,methN,posOf,sizesL,kindsL,frees,putF,getN,zA,zB,zC,zD,zE,zF,zG,qA,qB,qC,qD,qE,qF,reduceCtorEq,↓reduceIte,qG,zH,zI,zJ,zK,zL,zM,zN,qH,qI,zO,zP,zQ,zR,qJ,zS,zT,Nat.reduceAdd,Nat.reduceLT,Int.reduceLT,Int.reduceLE,Int.reduceNeg,Int.reduceSub,Int.reduceMul,Int.reduceAdd,Int.reduceToNat,qO,qP,zU,zV,zW,zX,zY,zZ,aR1,aR2,aW1,aW2,aW3,aW4,aW5,aW6,aW7,aW8,aW9,aWa,aWb,qK,qL,qM,qN,ggA,ssA,ggB,ssB,ggC,ssC,ggD,ssD,ggE,ssE,ggF,ssF,ggG,ssG,ggH,ssH,ggI,ssI,ggJ,ssJ,ggK,ssK,rawF_len, ev, allInt_map, contains_map]
      exact (iteA (fun hh => k1 hh _) (fun hh => k2 hh))
    refine step _ (fun hh => ?_) fun hh => ?_
    · rw [hh] at q; exact q
    · rw [hh] at q
      exact ⟨hok, chosen_loop ev hok kn _ q⟩
theorem c_chosen (bs : Base w B) (tb : Tabs B) {d s od os : List UInt8} {kp kv kk m : Nat} {v : Int} {vs kn : List Int} {led : Bool} {h : H} {Q : K1} (ep : h[kp]? = some (.tup [.str .negotiation, .bytes d, .bytes s, .obj kv])) (ev : h[kv]? = some (.list (vs.map .int)))
    (ek : h[kk]? = some (.list (kn.map .int))) (hm : 1 ≤ m)
    (q : ∀ h' k, Fr [] h h' → h'[k]? = some (.tup (chosenR (led || (decide (d ≠ os) || (decide (s ≠ od) || decide (v ∈ vs)))) kn vs)) → Q (.obj k) h') : G w B m 366 [.obj kp, .int v, .bytes od, .bytes os, .obj kk, .bool led] h Q := by
  refine fn_go bs tb (f_chosen_version _) hm [some (.obj kp), some (.int v), some (.bytes od), some (.bytes os), some (.obj kk), some (.bool led), none, none, none, none, none] rfl rfl ?_
  simp only [b_chosen_version, wpSs,↓xB,↓xD,↓xF,↓xG,↓xH,↓vA,↓vB,↓vC,↓vD,↓vE,↓vF,↓vL,↓vM,↓vO,↓vP,wpEs,wpOr,wpAnd,↓tB,↓tD,↓yA,↓yB,wpIt,wpBin,cmpV,eqO,eqV,inV,seqOf,wpIdx,wpSlc,wpBytes,wpLen,wpIndex,wpSetItem,wpSetAttr,wpAttr,initOf,methN,posOf,sizesL,kindsL,frees,putF,getN,zA,zB,zC,zD,zE,zF,zG,qA,qB,qC,qD,qE,qF,reduceCtorEq,↓reduceIte,qG,zH,zI,zJ,zK,zL,zM,zN,qH,qI,zO,zP,zQ,zR,qJ,zS,zT,Nat.reduceAdd,Nat.reduceLT,Int.reduceLT,Int.reduceLE,Int.reduceNeg,Int.reduceSub,Int.reduceMul,Int.reduceAdd,Int.reduceToNat,qO,qP,zU,zV,zW,zX,zY,zZ,aR1,aR2,aW1,aW2,aW3,aW4,aW5,aW6,aW7,aW8,aW9,aWa,aWb,qK,qL,qM,qN,ggA,ssA,ggB,ssB,ggC,ssC,ggD,ssD,ggE,ssE,ggF,ssF,ggG,ssG,ggH,ssH,ggI,ssI,ggJ,ssJ,ggK,ssK,rawF_len, ep, ev, allInt_map, contains_map]
  generalize hc : (led || (decide (d ≠ os) || (decide (s ≠ od) || decide (v ∈ vs)))) = c at q
  have qi : c = true → Q (.obj h.length) (h ++ [.tup [.str .ignore, .none]]) := fun hh => q _ _ (Fr.app _ _) (by rw [get_last, hh]; rfl)
  have qn : c = false → wpFor (fun l2 h2 Q2 => wpSs (G w B (m - 1)) lb_chosen_version_0 l2 h2 Q2) 10 (fun h' => h'[kk]? = some (O.list (List.map V.int kn))) (List.map V.int kn)
      [some (V.obj kp), some (V.int v), some (V.bytes od), some (V.bytes os), some (V.obj kk), some (V.bool led), some (V.str N.negotiation), some (V.bytes d), some (V.bytes s), some (V.obj kv), none] h fun f l1 h1 =>
        match f with
        | Fl.next => Q (V.obj (List.length h1)) (h1 ++ [O.tup [V.str N.give_up, V.none]])
        | f => match f with
          | Fl.ret v => Q v h1
          | Fl.next => Q V.none h1
          | Fl.brk => False := fun hh => by
    refine chosen_loop ev ek kn none ?_
    cases hf : kn.find? (fun v => decide (v ∈ vs)) with
    | some x => exact fun l => q _ _ (Fr.app _ _) (by rw [get_last, hh]; simp [chosenR, hf])
    | none => exact fun x' => q _ _ (Fr.app _ _) (by rw [get_last, hh]; simp [chosenR, hf])
  refine (iteA (fun h1 => qi (by rw [← hc, h1]; rfl)) (fun h1 => (iteA (fun h2 => qi ?_) (fun h2 => (iteA (fun h3 => qi ?_) (fun h3 => (iteA (fun h4 => qi ?_) (fun h4 => by simp only [tl_chosen_version_2, tl_chosen_version_3, wpSs,↓xB,↓xD,↓xF,↓xG,↓xH,↓vA,↓vB,↓vC,↓vD,↓vE,↓vF,↓vL,↓vM,↓vO,↓vP,wpEs,wpOr,wpAnd,↓tB,↓tD,↓yA,↓yB,wpIt,wpBin,cmpV,eqO,eqV,inV,seqOf,wpIdx,wpSlc,wpBytes,wpLen,wpIndex,wpSetItem,wpSetAttr,wpAttr,initOf,methN,posOf,sizesL,kindsL,frees,putF,getN,zA,zB,zC,zD,zE,zF,zG,qA,qB,qC,qD,qE,qF,reduceCtorEq,↓reduceIte,qG,zH,zI,zJ,zK,zL,zM,zN,qH,qI,zO,zP,zQ,zR,qJ,zS,zT,Nat.reduceAdd,Nat.reduceLT,Int.reduceLT,Int.reduceLE,Int.reduceNeg,Int.reduceSub,Int.reduceMul,Int.reduceAdd,Int.reduceToNat,qO,qP,zU,zV,zW,zX,zY,zZ,aR1,aR2,aW1,aW2,aW3,aW4,aW5,aW6,aW7,aW8,aW9,aWa,aWb,qK,qL,qM,qN,ggA,ssA,ggB,ssB,ggC,ssC,ggD,ssD,ggE,ssE,ggF,ssF,ggG,ssG,ggH,ssH,ggI,ssI,ggJ,ssJ,ggK,ssK,rawF_len, ek]; exact qn (by rw [← hc]; simp_all)))))))))
  all_goals rw [← hc]; simp_all
theorem c_takes (bs : Base w B) (tb : Tabs B) {D d s tok tag od os : List UInt8} {ver : V} {kp m : Nat} {led : Bool} {h : H} {Q : K1} (ep : h[kp]? = some (.tup [.str .retry, ver, .bytes d, .bytes s, .bytes tok, .bytes tag])) (hD : 16 ≤ D.length) (hD2 : D.length ≤ 1000) (ho : od.length ≤ 1000) (hm : 4 ≤ m)
    (q : ∀ h', Fr [] h h' → Q (.bool (!(led || (decide (d ≠ os) || (decide (s = od) || decide (tok.length = 0)))) && decide (tag = tagOf rKey od.length od (D.take (D.length - 16))))) h') : G w B m 387 [.bytes D, .obj kp, .bytes od, .bytes os, .bool led] h Q := by
  refine fn_go bs tb (f_takes_retry _) (by first | exact mm hm | exact m1 hm | decide | (first | lia | omega)) [some (.bytes D), some (.obj kp), some (.bytes od), some (.bytes os), some (.bool led), none, none, none, none, none, none] rfl rfl ?_
  have e1 : ((D.length : Int) - 16) = ((D.length - 16 : Nat) : Int) := by (first | lia | omega)
  have e2 : decide ((tok.length : Int) = 0) = decide (tok.length = 0) := by simp
  simp only [b_takes_retry, wpSs,↓xB,↓xD,↓xG,↓vB,↓vC,↓vD,↓vE,↓vF,↓vG,↓vH,↓vL,↓vM,↓vO,↓vP,↓vS,↓vU,↓wI,wpEs,wpOr,wpAnd,↓tB,↓tD,↓yA,↓yB,wpIt,wpBin,cmpV,eqO,eqV,inV,seqOf,wpIdx,wpSlc,wpBytes,wpLen,wpIndex,wpSetItem,wpSetAttr,wpAttr,initOf,methN,posOf,sizesL,kindsL,frees,putF,getN,zA,zB,zC,zD,zE,zF,zG,qA,qB,qC,qD,qE,qF,reduceCtorEq,↓reduceIte,qG,zH,zI,zJ,zK,zL,zM,zN,qH,qI,zO,zP,zQ,zR,qJ,zS,zT,Nat.reduceAdd,Nat.reduceLT,Int.reduceLT,Int.reduceLE,Int.reduceNeg,Int.reduceSub,Int.reduceMul,Int.reduceAdd,Int.reduceToNat,qO,qP,zU,zV,zW,zX,zY,zZ,aR1,aR2,aW1,aW2,aW3,aW4,aW5,aW6,aW7,aW8,aW9,aWa,aWb,qK,qL,qM,qN,ggA,ssA,ggB,ssB,ggC,ssC,ggD,ssD,ggE,ssE,ggF,ssF,ggG,ssG,ggH,ssH,ggI,ssI,ggJ,ssJ,ggK,ssK,rawF_len, ep, e2]
  generalize hc : (led || (decide (d ≠ os) || (decide (s = od) || decide (tok.length = 0)))) = c at q
  have qi : c = true → Q (.bool false) h := fun hh => by have := q h (Fr.refl h); rw [hh] at this; simpa using this
  refine (iteA (fun h1 => qi (by rw [← hc, h1]; rfl)) (fun h1 => (iteA (fun h2 => qi ?_) (fun h2 => (iteA (fun h3 => qi ?_) (fun h3 => (iteA (fun h4 => qi ?_) (fun h4 => ?_))))))))
  · rw [← hc]; simp_all
  · rw [← hc]; simp_all
  · rw [← hc]; simp_all
  · have : c = false := by rw [← hc]; simp_all
    simp only [tl_takes_retry_2, wpSs,↓xB,↓xD,↓xG,↓vB,↓vC,↓vD,↓vE,↓vF,↓vG,↓vH,↓vL,↓vM,↓vO,↓vP,↓vS,↓vU,↓wI,wpEs,wpOr,wpAnd,↓tB,↓tD,↓yA,↓yB,wpIt,wpBin,cmpV,eqO,eqV,inV,seqOf,wpIdx,wpSlc,wpBytes,wpLen,wpIndex,wpSetItem,wpSetAttr,wpAttr,initOf,methN,posOf,sizesL,kindsL,frees,putF,getN,zA,zB,zC,zD,zE,zF,zG,qA,qB,qC,qD,qE,qF,reduceCtorEq,↓reduceIte,qG,zH,zI,zJ,zK,zL,zM,zN,qH,qI,zO,zP,zQ,zR,qJ,zS,zT,Nat.reduceAdd,Nat.reduceLT,Int.reduceLT,Int.reduceLE,Int.reduceNeg,Int.reduceSub,Int.reduceMul,Int.reduceAdd,Int.reduceToNat,qO,qP,zU,zV,zW,zX,zY,zZ,aR1,aR2,aW1,aW2,aW3,aW4,aW5,aW6,aW7,aW8,aW9,aWa,aWb,qK,qL,qM,qN,ggA,ssA,ggB,ssB,ggC,ssC,ggD,ssD,ggE,ssE,ggF,ssF,ggG,ssG,ggH,ssH,ggI,ssI,ggJ,ssJ,ggK,ssK,rawF_len, e1, cut_to (show D.length - 16 ≤ D.length by (first | lia | omega))]
    refine c_retry_tag bs tb ho (by simp; (first | lia | omega)) (by first | exact mm hm | exact m1 hm | decide | (first | lia | omega)) fun h' fr => ?_
    have := q h' fr
    rw [‹c = false›] at this
    simpa using this
theorem ofBe_snoc (b : List UInt8) (x : UInt8) : ofBe (b ++ [x]) = ofBe b * 256 + x.toNat := by unfold ofBe; rw [List.foldl_append]; rfl
theorem ofBe_beN : ∀ (k n : Nat), n < 256 ^ k → ofBe (beN k n) = n
  | 0, n, h => by have : n = 0 := by (first | lia | omega)
                  subst this; rfl
  | k + 1, n, h => by
    unfold beN
    rw [ofBe_snoc, ofBe_beN k (n / 256) (by rw [Nat.pow_succ] at h; (first | lia | omega)), toU8]
    (first | lia | omega)
theorem c_check_nil (bs : Base w B) (tb : Tabs B) {secret address : List UInt8} {now life : Int} {m : Nat} {h : H} {Q : K1} (hm : 1 ≤ m) (q : Q .none h) : G w B m 401 [.bytes secret, .bytes address, .bytes [], .int now, .int life] h Q := by
  refine fn_go bs tb (f_check_token _) (by first | exact mm hm | exact m1 hm | decide | (first | lia | omega)) [some (.bytes secret), some (.bytes address), some (.bytes []), some (.int now), some (.int life), none, none, none] rfl rfl ?_
  have d0 : decide (((0 : Nat) : Int) < 25) = true := by decide
  simp only [b_check_token, wpSs,↓xB,↓xD,↓xG,↓vA,↓vC,↓vE,↓vF,↓vG,↓vH,↓vL,↓vM,↓vN,↓vO,↓vP,↓vS,↓vU,↓wG,↓wH,↓wI,wpEs,wpOr,wpAnd,↓tA,↓tB,↓tC,↓tD,↓yA,↓yB,wpIt,wpBin,cmpV,eqO,eqV,inV,seqOf,wpIdx,wpSlc,wpBytes,wpLen,wpIndex,wpSetItem,wpSetAttr,wpAttr,initOf,methN,posOf,sizesL,kindsL,frees,putF,getN,zA,zB,zC,zD,zE,zF,zG,qA,qB,qC,qD,qE,qF,reduceCtorEq,↓reduceIte,qG,zH,zI,zJ,zK,zL,zM,zN,qH,qI,zO,zP,zQ,zR,qJ,zS,zT,Nat.reduceAdd,Nat.reduceLT,Int.reduceLT,Int.reduceLE,Int.reduceNeg,Int.reduceSub,Int.reduceMul,Int.reduceAdd,Int.reduceToNat,qO,qP,zU,zV,zW,zX,zY,zZ,aR1,aR2,aW1,aW2,aW3,aW4,aW5,aW6,aW7,aW8,aW9,aWa,aWb,qK,qL,qM,qN,ggA,ssA,ggB,ssB,ggC,ssC,ggD,ssD,ggE,ssE,ggF,ssF,ggG,ssG,ggH,ssH,ggI,ssI,ggJ,ssJ,ggK,ssK,rawF_len, d0]
  exact q
theorem c_check (bs : Base w B) (tb : Tabs B) {secret address od tag : List UInt8} {t m : Nat} {now life : Int} {h : H} {Q : K1} (htag : tag.length = 16) (ho : od.length ≤ 20) (ht : t < 1000000) (ha : address.length ≤ 1000) (hm : 3 ≤ m)
    (q : ∀ h', Fr [] h h' → Q (if tagOf secret address.length address (tokBody od t) = tag ∧ ((t : Int) ≤ now ∧ now ≤ t + life) then .bytes od else .none) h') :
    G w B m 401 [.bytes secret, .bytes address, .bytes (tokBody od t ++ tag), .int now, .int life] h Q := by
  refine fn_go bs tb (f_check_token _) (by first | exact mm hm | exact m1 hm | decide | (first | lia | omega)) [some (.bytes secret), some (.bytes address), some (.bytes (tokBody od t ++ tag)), some (.int now), some (.int life), none, none, none] rfl rfl ?_
  have hb := tokBody_length od t
  have hl : (tokBody od t ++ tag).length = od.length + 25 := by rw [List.length_append]; (first | lia | omega)
  have d0 : decide (((tokBody od t ++ tag).length : Int) < 25) = false := by rw [hl]; exact decide_eq_false (by first | exact mm hm | exact m1 hm | decide | (first | lia | omega))
  have e1 : (((tokBody od t ++ tag).length : Int) - 16) = (((tokBody od t).length : Nat) : Int) := by rw [hl]; (first | lia | omega)
  have e2 : cut (tokBody od t ++ tag) none (some ((tokBody od t).length : Int)) = tokBody od t := by rw [cut_to (by rw [hl]; (first | lia | omega)), List.take_left]
  have e3 : cut (tokBody od t ++ tag) (some ((tokBody od t).length : Int)) none = tag := by rw [cut_from (by rw [hl]; (first | lia | omega)), List.drop_left]
  have e4 : (tokBody od t ++ tag).getD 8 0 = od.length.toUInt8 := by
    unfold tokBody
    rw [List.append_assoc, List.getD_eq_getElem?_getD, List.getElem?_append_right (by rw [beN_length]; (first | lia | omega)), beN_length]
    rfl
  have e5 : ((od.length.toUInt8).toNat : Int) = (od.length : Int) := by rw [toU8]; (first | lia | omega)
  have d1 : decide ((od.length : Int) > 20) = false := decide_eq_false (by first | exact mm hm | exact m1 hm | decide | (first | lia | omega))
  have d2 : decide (((tokBody od t).length : Int) = 9 + (od.length : Int)) = true := decide_eq_true (by first | exact mm hm | exact m1 hm | decide | (first | lia | omega))
  simp only [b_check_token, wpSs,↓xB,↓xD,↓xG,↓vA,↓vC,↓vE,↓vF,↓vG,↓vH,↓vL,↓vM,↓vN,↓vO,↓vP,↓vS,↓vU,↓wG,↓wH,↓wI,wpEs,wpOr,wpAnd,↓tA,↓tB,↓tC,↓tD,↓yA,↓yB,wpIt,wpBin,cmpV,eqO,eqV,inV,seqOf,wpIdx,wpSlc,wpBytes,wpLen,wpIndex,wpSetItem,wpSetAttr,wpAttr,initOf,methN,posOf,sizesL,kindsL,frees,putF,getN,zA,zB,zC,zD,zE,zF,zG,qA,qB,qC,qD,qE,qF,reduceCtorEq,↓reduceIte,qG,zH,zI,zJ,zK,zL,zM,zN,qH,qI,zO,zP,zQ,zR,qJ,zS,zT,Nat.reduceAdd,Nat.reduceLT,Int.reduceLT,Int.reduceLE,Int.reduceNeg,Int.reduceSub,Int.reduceMul,Int.reduceAdd,Int.reduceToNat,qO,qP,zU,zV,zW,zX,zY,zZ,aR1,aR2,aW1,aW2,aW3,aW4,aW5,aW6,aW7,aW8,aW9,aWa,aWb,qK,qL,qM,qN,ggA,ssA,ggB,ssB,ggC,ssC,ggD,ssD,ggE,ssE,ggF,ssF,ggG,ssG,ggH,ssH,ggI,ssI,ggJ,ssJ,ggK,ssK,rawF_len, d0]
  simp only [tl_check_token_1, wpSs,↓xB,↓xD,↓xG,↓vA,↓vC,↓vE,↓vF,↓vG,↓vH,↓vL,↓vM,↓vN,↓vO,↓vP,↓vS,↓vU,↓wG,↓wH,↓wI,wpEs,wpOr,wpAnd,↓tA,↓tB,↓tC,↓tD,↓yA,↓yB,wpIt,wpBin,cmpV,eqO,eqV,inV,seqOf,wpIdx,wpSlc,wpBytes,wpLen,wpIndex,wpSetItem,wpSetAttr,wpAttr,initOf,methN,posOf,sizesL,kindsL,frees,putF,getN,zA,zB,zC,zD,zE,zF,zG,qA,qB,qC,qD,qE,qF,reduceCtorEq,↓reduceIte,qG,zH,zI,zJ,zK,zL,zM,zN,qH,qI,zO,zP,zQ,zR,qJ,zS,zT,Nat.reduceAdd,Nat.reduceLT,Int.reduceLT,Int.reduceLE,Int.reduceNeg,Int.reduceSub,Int.reduceMul,Int.reduceAdd,Int.reduceToNat,qO,qP,zU,zV,zW,zX,zY,zZ,aR1,aR2,aW1,aW2,aW3,aW4,aW5,aW6,aW7,aW8,aW9,aWa,aWb,qK,qL,qM,qN,ggA,ssA,ggB,ssB,ggC,ssC,ggD,ssD,ggE,ssE,ggF,ssF,ggG,ssG,ggH,ssH,ggI,ssI,ggJ,ssJ,ggK,ssK,rawF_len, e1, e2, e4, e5, d1, d2]
  refine ⟨⟨by (first | lia | omega), by rw [hl]; (first | lia | omega)⟩, c_tag_of bs tb ha (by first | exact mm hm | exact m1 hm | decide | (first | lia | omega)) (by first | exact mm hm | exact m1 hm | decide | (first | lia | omega)) fun h1 fr1 => ?_⟩
  simp only [wpSs,↓xB,↓xD,↓xG,↓vA,↓vC,↓vE,↓vF,↓vG,↓vH,↓vL,↓vM,↓vN,↓vO,↓vP,↓vS,↓vU,↓wG,↓wH,↓wI,wpEs,wpOr,wpAnd,↓tA,↓tB,↓tC,↓tD,↓yA,↓yB,wpIt,wpBin,cmpV,eqO,eqV,inV,seqOf,wpIdx,wpSlc,wpBytes,wpLen,wpIndex,wpSetItem,wpSetAttr,wpAttr,initOf,methN,posOf,sizesL,kindsL,frees,putF,getN,zA,zB,zC,zD,zE,zF,zG,qA,qB,qC,qD,qE,qF,reduceCtorEq,↓reduceIte,qG,zH,zI,zJ,zK,zL,zM,zN,qH,qI,zO,zP,zQ,zR,qJ,zS,zT,Nat.reduceAdd,Nat.reduceLT,Int.reduceLT,Int.reduceLE,Int.reduceNeg,Int.reduceSub,Int.reduceMul,Int.reduceAdd,Int.reduceToNat,qO,qP,zU,zV,zW,zX,zY,zZ,aR1,aR2,aW1,aW2,aW3,aW4,aW5,aW6,aW7,aW8,aW9,aWa,aWb,qK,qL,qM,qN,ggA,ssA,ggB,ssB,ggC,ssC,ggD,ssD,ggE,ssE,ggF,ssF,ggG,ssG,ggH,ssH,ggI,ssI,ggJ,ssJ,ggK,ssK,rawF_len, e3]
  have f1 : Fr [] h h1 := (Fr.app h _).trans fr1
  have qn : ¬ (tagOf secret address.length address (tokBody od t) = tag ∧ ((t : Int) ≤ now ∧ now ≤ t + life)) → Q .none h1 := fun hh => by have := q h1 f1; rwa [if_neg hh] at this
  refine (iteA (fun hh => qn fun z => ?_) (fun hh => ?_))
  · rw [z.1] at hh; simp at hh
  have htg : tagOf secret address.length address (tokBody od t) = tag := by simpa using hh
  simp only [tl_check_token_3, wpSs,↓xB,↓xD,↓xG,↓vA,↓vC,↓vE,↓vF,↓vG,↓vH,↓vL,↓vM,↓vN,↓vO,↓vP,↓vS,↓vU,↓wG,↓wH,↓wI,wpEs,wpOr,wpAnd,↓tA,↓tB,↓tC,↓tD,↓yA,↓yB,wpIt,wpBin,cmpV,eqO,eqV,inV,seqOf,wpIdx,wpSlc,wpBytes,wpLen,wpIndex,wpSetItem,wpSetAttr,wpAttr,initOf,methN,posOf,sizesL,kindsL,frees,putF,getN,zA,zB,zC,zD,zE,zF,zG,qA,qB,qC,qD,qE,qF,reduceCtorEq,↓reduceIte,qG,zH,zI,zJ,zK,zL,zM,zN,qH,qI,zO,zP,zQ,zR,qJ,zS,zT,Nat.reduceAdd,Nat.reduceLT,Int.reduceLT,Int.reduceLE,Int.reduceNeg,Int.reduceSub,Int.reduceMul,Int.reduceAdd,Int.reduceToNat,qO,qP,zU,zV,zW,zX,zY,zZ,aR1,aR2,aW1,aW2,aW3,aW4,aW5,aW6,aW7,aW8,aW9,aWa,aWb,qK,qL,qM,qN,ggA,ssA,ggB,ssB,ggC,ssC,ggD,ssD,ggE,ssE,ggF,ssF,ggG,ssG,ggH,ssH,ggI,ssI,ggJ,ssJ,ggK,ssK,rawF_len]
  refine c_get_whole bs tb (d := tokBody od t) (a := 0) (size := 8) (by first | exact mm hm | exact m1 hm | decide | (first | lia | omega)) (by first | exact mm hm | exact m1 hm | decide | (first | lia | omega)) ?_
  have e6 : ofBe (sl (tokBody od t) 0 8) = t := by
    have : sl (tokBody od t) 0 8 = beN 8 t := by
      unfold sl tokBody
      rw [List.drop_zero, List.take_append_of_le_length (by rw [beN_length]; (first | lia | omega)), List.take_of_length_le (by rw [beN_length]; (first | lia | omega))]
    have e0 : (256 : Nat) ^ 8 = 18446744073709551616 := by decide
    rw [this, ofBe_beN 8 t (by first | exact mm hm | exact m1 hm | decide | (first | lia | omega))]
  have e7 : cut (tokBody od t) (some (9 : Int)) none = od := by
    have : cut (tokBody od t) (some ((9 : Nat) : Int)) none = (tokBody od t).drop 9 := cut_from (by first | exact mm hm | exact m1 hm | decide | (first | lia | omega))
    rw [show (9 : Int) = ((9 : Nat) : Int) from rfl, this]
    unfold tokBody
    rw [List.drop_append, beN_length, List.drop_of_length_le (by rw [beN_length]; (first | lia | omega))]
    rfl
  simp only [tl_check_token_4, wpSs,↓xB,↓xD,↓xG,↓vA,↓vC,↓vE,↓vF,↓vG,↓vH,↓vL,↓vM,↓vN,↓vO,↓vP,↓vS,↓vU,↓wG,↓wH,↓wI,wpEs,wpOr,wpAnd,↓tA,↓tB,↓tC,↓tD,↓yA,↓yB,wpIt,wpBin,cmpV,eqO,eqV,inV,seqOf,wpIdx,wpSlc,wpBytes,wpLen,wpIndex,wpSetItem,wpSetAttr,wpAttr,initOf,methN,posOf,sizesL,kindsL,frees,putF,getN,zA,zB,zC,zD,zE,zF,zG,qA,qB,qC,qD,qE,qF,reduceCtorEq,↓reduceIte,qG,zH,zI,zJ,zK,zL,zM,zN,qH,qI,zO,zP,zQ,zR,qJ,zS,zT,Nat.reduceAdd,Nat.reduceLT,Int.reduceLT,Int.reduceLE,Int.reduceNeg,Int.reduceSub,Int.reduceMul,Int.reduceAdd,Int.reduceToNat,qO,qP,zU,zV,zW,zX,zY,zZ,aR1,aR2,aW1,aW2,aW3,aW4,aW5,aW6,aW7,aW8,aW9,aWa,aWb,qK,qL,qM,qN,ggA,ssA,ggB,ssB,ggC,ssC,ggD,ssD,ggE,ssE,ggF,ssF,ggG,ssG,ggH,ssH,ggI,ssI,ggJ,ssJ,ggK,ssK,rawF_len, e6, e7]
  refine (iteF (fun h2 => qn fun z => ?_) (fun h2 => (iteA (fun h3 => ?_) (fun h3 => qn fun z => ?_))))
  · have := of_decide_eq_false h2; exact this z.2.1
  · have := q h1 f1
    rwa [if_pos ⟨htg, of_decide_eq_true h2, of_decide_eq_true h3⟩] at this
  · have := of_decide_eq_false h3; exact this z.2.2
theorem c_other (bs : Base w B) (tb : Tabs B) {p : List UInt8} {u : UInt8} {m : Nat} {h : H} {Q : K1} (hp : p.length ≤ 1000) (hm : 1 ≤ m) (q : ∀ h', Fr [] h h' → Q (.bytes (p ++ [(255 - u.toNat).toUInt8])) h') : G w B m 464 [.bytes (p ++ [u])] h Q := by
  refine fn_go bs tb (f_law_other _) (by first | exact mm hm | exact m1 hm | decide | (first | lia | omega)) [some (.bytes (p ++ [u]))] rfl rfl ?_
  have hu := u.toNat_lt
  have e1 : cut (p ++ [u]) none (some (-1 : Int)) = p := by
    unfold cut clip
    simp only [Option.elim, List.drop_zero, Nat.sub_zero]
    rw [if_pos (by decide)]
    have : (-1 + ((p ++ [u]).length : Int)).toNat = p.length := by rw [List.length_append]; simp; (first | lia | omega)
    rw [this, List.take_left]
  have e2 : ((255 : Int) - (u.toNat : Int)) = ((255 - u.toNat : Nat) : Int) := by (first | lia | omega)
  have e3 : (p ++ [u]).getD (-1 + ((p ++ [u]).length : Int)).toNat 0 = u := by
    have : (-1 + ((p ++ [u]).length : Int)).toNat = p.length := by rw [List.length_append]; simp; (first | lia | omega)
    rw [this, List.getD_eq_getElem?_getD]; simp
  simp only [b_law_other, wpSs,↓xG,↓vC,↓vE,↓vF,↓vH,↓vI,↓vQ,↓vV,↓wG,↓wI,wpEs,wpOr,wpAnd,↓tD,wpIt,wpBin,cmpV,eqO,eqV,inV,seqOf,wpIdx,wpSlc,wpBytes,wpLen,wpIndex,wpSetItem,wpSetAttr,wpAttr,initOf,methN,posOf,sizesL,kindsL,frees,putF,getN,zA,zB,zC,zD,zE,zF,zG,qA,qB,qC,qD,qE,qF,reduceCtorEq,↓reduceIte,qG,zH,zI,zJ,zK,zL,zM,zN,qH,qI,zO,zP,zQ,zR,qJ,zS,zT,Nat.reduceAdd,Nat.reduceLT,Int.reduceLT,Int.reduceLE,Int.reduceNeg,Int.reduceSub,Int.reduceMul,Int.reduceAdd,Int.reduceToNat,qO,qP,zU,zV,zW,zX,zY,zZ,aR1,aR2,aW1,aW2,aW3,aW4,aW5,aW6,aW7,aW8,aW9,aWa,aWb,qK,qL,qM,qN,ggA,ssA,ggB,ssB,ggC,ssC,ggD,ssD,ggE,ssE,ggF,ssF,ggG,ssG,ggH,ssH,ggI,ssI,ggJ,ssJ,ggK,ssK,rawF_len, e1, e3, e2, octetsOf_one (show 255 - u.toNat < 256 by (first | lia | omega))]
  exact ⟨⟨by rw [List.length_append]; simp; (first | lia | omega), by (first | lia | omega)⟩, (by first | omega | decide | (simp; done) | (simp; omega)), (by first | omega | decide | (simp; done) | (simp; omega)), q _ (Fr.app _ _)⟩
noncomputable def Rows (h : H) (kr kl : Nat) : Prop := ∃ (ns : List Nat) (c : Nat), h[kr]? = some (.list [.obj kl, .int c]) ∧ h[kl]? = some (.list (ns.map fun (n : Nat) => .int n)) ∧ ns.length ≤ 60
theorem c_law_take (bs : Base w B) (tb : Tabs B) {kr kl many m : Nat} {h : H} {Q : K1} (r : Rows h kr kl) (hmany : 0 < many) (hm : 1 ≤ m) (q : ∀ h' (x : Nat), Fr [kr, kl] h h' → Rows h' kr kl → x < many → Q (.int x) h') : G w B m 457 [.obj kr, .int many] h Q := by
  refine fn_go bs tb (f_law_take _) (by first | exact mm hm | exact m1 hm | decide | (first | lia | omega)) [some (.obj kr), some (.int many)] rfl rfl ?_
  obtain ⟨ns, c, e1, e2, hl⟩ := r
  have hne : kr ≠ kl := by
    rintro rfl
    rw [e1] at e2
    match ns, e2 with
    | [], e2 => cases e2
    | n :: ns, e2 => cases e2
  have hk1 := lt_of e1
  have hk2 := lt_of e2
  have e3 : ∀ o, (h.set kr o)[kr]? = some o := fun o => get_set hk1
  have e4 : ∀ o o', (h.set kr o ++ [o'])[kr]? = some o := fun o o' => by rw [List.getElem?_append_left (by simpa using hk1)]; exact e3 o
  have e5 : ∀ o o', (h.set kr o ++ [o'])[kl]? = some (.list (ns.map fun (n : Nat) => .int n)) := fun o o' => by rw [List.getElem?_append_left (by simpa using hk2), List.getElem?_set_ne hne]; exact e2
  simp only [b_law_take, wpSs,↓xB,↓xD,↓xG,↓vC,↓vF,↓vH,↓vM,↓vO,↓vQ,↓wB,↓wG,wpEs,wpOr,wpAnd,↓tA,↓tD,↓tF,wpIt,wpBin,cmpV,eqO,eqV,inV,seqOf,wpIdx,wpSlc,wpBytes,wpLen,wpIndex,wpSetItem,wpSetAttr,wpAttr,initOf,methN,posOf,sizesL,kindsL,frees,putF,getN,zA,zB,zC,zD,zE,zF,zG,qA,qB,qC,qD,qE,qF,reduceCtorEq,↓reduceIte,qG,zH,zI,zJ,zK,zL,zM,zN,qH,qI,zO,zP,zQ,zR,qJ,zS,zT,Nat.reduceAdd,Nat.reduceLT,Int.reduceLT,Int.reduceLE,Int.reduceNeg,Int.reduceSub,Int.reduceMul,Int.reduceAdd,Int.reduceToNat,qO,qP,zU,zV,zW,zX,zY,zZ,aR1,aR2,aW1,aW2,aW3,aW4,aW5,aW6,aW7,aW8,aW9,aWa,aWb,qK,qL,qM,qN,ggA,ssA,ggB,ssB,ggC,ssC,ggD,ssD,ggE,ssE,ggF,ssF,ggG,ssG,ggH,ssH,ggI,ssI,ggJ,ssJ,ggK,ssK,rawF_len, e1, e3, e4, e5]
  have ec : ((c : Int) + 1) = ((c + 1 : Nat) : Int) := rfl
  refine ⟨by (first | lia | omega), by (first | lia | omega), by (first | lia | omega), iteA (fun hh => ?_) (fun hh => ?_)⟩
  · match ns, hl, e2, e5 with
    | [], _, _, _ => simp at hh
    | n :: ns, hl, e2, e5 =>
      simp only [List.map_cons]
      refine ⟨by (first | lia | omega), by simp at hl ⊢; (first | lia | omega), by (first | lia | omega), ?_⟩
      have e6 : ((n : Int) % (many : Int)) = ((n % many : Nat) : Int) := by rw [Int.natCast_emod]
      rw [e6]
      refine q _ _ ((((Fr.refl h).setIn (by simp) _).push _).setIn (by simp) _) ⟨ns, c + 1, ?_, ?_, by simp at hl; (first | lia | omega)⟩ (Nat.mod_lt _ hmany)
      · rw [List.getElem?_set_ne (Ne.symm hne)]; exact e4 _ _
      · rw [get_set (by simp; (first | lia | omega))]
  · simp only [tl_law_take_2, wpSs,↓xB,↓xD,↓xG,↓vC,↓vF,↓vH,↓vM,↓vO,↓vQ,↓wB,↓wG,wpEs,wpOr,wpAnd,↓tA,↓tD,↓tF,wpIt,wpBin,cmpV,eqO,eqV,inV,seqOf,wpIdx,wpSlc,wpBytes,wpLen,wpIndex,wpSetItem,wpSetAttr,wpAttr,initOf,methN,posOf,sizesL,kindsL,frees,putF,getN,zA,zB,zC,zD,zE,zF,zG,qA,qB,qC,qD,qE,qF,reduceCtorEq,↓reduceIte,qG,zH,zI,zJ,zK,zL,zM,zN,qH,qI,zO,zP,zQ,zR,qJ,zS,zT,Nat.reduceAdd,Nat.reduceLT,Int.reduceLT,Int.reduceLE,Int.reduceNeg,Int.reduceSub,Int.reduceMul,Int.reduceAdd,Int.reduceToNat,qO,qP,zU,zV,zW,zX,zY,zZ,aR1,aR2,aW1,aW2,aW3,aW4,aW5,aW6,aW7,aW8,aW9,aWa,aWb,qK,qL,qM,qN,ggA,ssA,ggB,ssB,ggC,ssC,ggD,ssD,ggE,ssE,ggF,ssF,ggG,ssG,ggH,ssH,ggI,ssI,ggJ,ssJ,ggK,ssK,rawF_len, e4]
    refine ⟨by (first | lia | omega), .inl (by decide), by (first | lia | omega), by (first | lia | omega), ?_⟩
    have e6 : ((7 * ((c : Int) + 1) + ((c : Int) + 1) / 3) % (many : Int)) = (((7 * (c + 1) + (c + 1) / 3) % many : Nat) : Int) := by
      rw [Int.natCast_emod]; rfl
    rw [e6]
    exact q _ _ (((Fr.refl h).setIn (by simp) _).push _) ⟨ns, c + 1, e4 _ _, e5 _ _, hl⟩ (Nat.mod_lt _ hmany)
end
end Mine
end
section
set_option maxRecDepth 100000
set_option maxHeartbeats 2000000
set_option backward.match.sparseCases false
set_option linter.all false
namespace Mine
open PySem PySem.W
/- ==== the hash tells one changed octet ==== -/
theorem inv_eq : ((FAC : Nat) : Int) * 111159958757776452325671795171527994789 = 1 + 4157941691618991872 * ((M127 : Nat) : Int) := by rfl
theorem mul_big {M f g : Nat} {u : Int} (hp : 0 < M) (hf : f < M) (hg : g < M) (h3 : ((f : Int) - g) = (M : Int) * u) : f = g := by
  rcases Int.lt_trichotomy u 0 with h | h | h
  · have : ((M : Nat) : Int) * u ≤ (M : Int) * (-1) := Int.mul_le_mul_of_nonneg_left (by first | exact mm hm | exact m1 hm | decide | (first | lia | omega)) (by first | exact mm hm | exact m1 hm | decide | (first | lia | omega))
    (first | lia | omega)
  · subst h; simp at h3; (first | lia | omega)
  · have : (M : Int) * 1 ≤ ((M : Nat) : Int) * u := Int.mul_le_mul_of_nonneg_left (by first | exact mm hm | exact m1 hm | decide | (first | lia | omega)) (by first | exact mm hm | exact m1 hm | decide | (first | lia | omega))
    (first | lia | omega)
theorem add_big {z a b M : Nat} (hM : 256 ≤ M) (ha : a < 256) (hb : b < 256) (h : (z + a + 1) % M = (z + b + 1) % M) : a = b := by
  have e1 := Nat.div_add_mod (z + a + 1) M
  have e2 := Nat.div_add_mod (z + b + 1) M
  rw [h] at e1
  generalize (z + b + 1) % M = r at *
  generalize (z + a + 1) / M = x at *
  generalize (z + b + 1) / M = y at *
  rcases Nat.lt_trichotomy x y with hxy | hxy | hxy
  · have : M * (x + 1) ≤ M * y := Nat.mul_le_mul_left _ hxy
    rw [Nat.mul_add, Nat.mul_one] at this
    (first | lia | omega)
  · subst hxy; (first | lia | omega)
  · have : M * (y + 1) ≤ M * x := Nat.mul_le_mul_left _ hxy
    rw [Nat.mul_add, Nat.mul_one] at this
    (first | lia | omega)
theorem M_pos : 256 ≤ M127 := by decide
theorem step_inj {f g c : Nat} (hf : f < M127) (hg : g < M127) (h : (f * FAC + c) % M127 = (g * FAC + c) % M127) : f = g := by
  have e := inv_eq
  have hM := M_pos
  generalize M127 = M at *
  generalize FAC = F at *
  generalize (111159958757776452325671795171527994789 : Int) = fi at *
  generalize (4157941691618991872 : Int) = kk at *
  have h1 : (((f * F + c) % M : Nat) : Int) = (((g * F + c) % M : Nat) : Int) := by rw [h]
  rw [Int.natCast_emod, Int.natCast_emod, Int.emod_eq_emod_iff_emod_sub_eq_zero] at h1
  obtain ⟨q, hq⟩ := Int.dvd_of_emod_eq_zero h1
  rw [Int.natCast_add, Int.natCast_add, Int.natCast_mul, Int.natCast_mul] at hq
  have h2 : ((f : Int) - g) * (F : Int) = (M : Int) * q := by rw [Int.sub_mul]; (first | lia | omega)
  have h3 : ((f : Int) - g) = (M : Int) * (q * fi - ((f : Int) - g) * kk) := by
    have h4 : ((f : Int) - g) * ((F : Int) * fi) = (M : Int) * q * fi := by rw [← Int.mul_assoc, h2]
    rw [e, Int.mul_add, Int.mul_one] at h4
    rw [Int.mul_sub, ← Int.mul_assoc, ← h4]
    have h5 : ((f : Int) - g) * (kk * (M : Int)) = (M : Int) * (((f : Int) - g) * kk) := by rw [← Int.mul_assoc, Int.mul_comm]
    (first | lia | omega)
  exact mul_big (by first | exact mm hm | exact m1 hm | decide | (first | lia | omega)) hf hg h3
theorem mixG_cons (f : Nat) (a : UInt8) (r : List UInt8) : mixG f (a :: r) = mixG ((f * FAC + a.toNat + 1) % M127) r := rfl
theorem mixG_append (f : Nat) (p r : List UInt8) : mixG f (p ++ r) = mixG (mixG f p) r := by unfold mixG; rw [List.foldl_append]
theorem mixG_inj : ∀ (r : List UInt8) (f g : Nat), f < M127 → g < M127 → mixG f r = mixG g r → f = g
  | [], f, g, _, _, h => h
  | a :: r, f, g, hf, hg, h => by
    rw [mixG_cons, mixG_cons] at h
    have := mixG_inj r _ _ (Nat.mod_lt _ (by decide)) (Nat.mod_lt _ (by decide)) h
    rw [Nat.add_assoc, Nat.add_assoc] at this
    exact step_inj hf hg this
theorem mix_one {s : Nat} {p r : List UInt8} {a b : UInt8} (h : mix s (p ++ a :: r) = mix s (p ++ b :: r)) : a = b := by
  unfold mix at h
  rw [mixG_append, mixG_append, mixG_cons, mixG_cons] at h
  have := mixG_inj r _ _ (Nat.mod_lt _ (by decide)) (Nat.mod_lt _ (by decide)) h
  have ha := a.toNat_lt
  have hb := b.toNat_lt
  apply UInt8.toNat_inj.mp
  exact add_big M_pos (by first | exact mm hm | exact m1 hm | decide | (first | lia | omega)) (by first | exact mm hm | exact m1 hm | decide | (first | lia | omega)) this
theorem beN_inj {x y : Nat} (hx : x < M127) (hy : y < M127) (h : beN 16 x = beN 16 y) : x = y := by
  have e : M127 < (256 : Nat) ^ 16 := by decide
  have h1 := ofBe_beN 16 x (Nat.lt_trans hx e)
  have h2 := ofBe_beN 16 y (Nat.lt_trans hy e)
  rw [h] at h1
  exact h1.symm.trans h2
theorem tag_one {key head head' body body' p r : List UInt8} {n : Nat} {a b : UInt8} (h1 : beN 4 head.length ++ head ++ body = p ++ a :: r) (h2 : beN 4 head'.length ++ head' ++ body' = p ++ b :: r) (h : tagOf key n head body = tagOf key n head' body') : a = b := by
  unfold tagOf at h
  rw [h1, h2] at h
  exact mix_one (beN_inj (mix_lt _ _) (mix_lt _ _) h)
end Mine
end
section
set_option maxRecDepth 100000
set_option maxHeartbeats 2000000
set_option backward.match.sparseCases false
set_option linter.all false
namespace Mine
open PySem PySem.W
noncomputable abbrev own : List UInt8 := [111, 119, 110]
noncomputable abbrev place : List UInt8 := [112, 108, 97, 99, 101]
noncomputable abbrev plbce : List UInt8 := [112, 108, 98, 99, 101]
noncomputable abbrev secret : List UInt8 := [115, 101, 99, 114, 101, 116]
structure CS where
  ver : Nat
  known : List Int
  dcid : List UInt8
  first : List UInt8
  token : List UInt8
  now : Nat
  born : Nat
  life : Nat
  led : Bool
  done : Bool
noncomputable def dOf (c : CS) (kk : Nat) : List (N × V) := [(.version, .int c.ver), (.known, .obj kk), (.dcid, .bytes c.dcid), (.first, .bytes c.first), (.scid, .bytes own), (.token, .bytes c.token), (.now, .int c.now), (.born, .int c.born), (.life, .int c.life), (.is_led, .bool c.led), (.is_done, .bool c.done)]
section
variable (c : CS) (kk : Nat)
theorem dg_ver : getN .version (dOf c kk) = some (.int c.ver) := rfl
theorem dg_known : getN .known (dOf c kk) = some (.obj kk) := rfl
theorem dg_dcid : getN .dcid (dOf c kk) = some (.bytes c.dcid) := rfl
theorem dg_first : getN .first (dOf c kk) = some (.bytes c.first) := rfl
theorem dg_scid : getN .scid (dOf c kk) = some (.bytes own) := rfl
theorem dg_token : getN .token (dOf c kk) = some (.bytes c.token) := rfl
theorem dg_now : getN .now (dOf c kk) = some (.int c.now) := rfl
theorem dg_born : getN .born (dOf c kk) = some (.int c.born) := rfl
theorem dg_life : getN .life (dOf c kk) = some (.int c.life) := rfl
theorem dg_led : getN .is_led (dOf c kk) = some (.bool c.led) := rfl
theorem dg_done : getN .is_done (dOf c kk) = some (.bool c.done) := rfl
theorem ds_ver (x : Nat) : putN' .version (.int x) (dOf c kk) = dOf { c with ver := x } kk := rfl
theorem ds_dcid (x : List UInt8) : putN' .dcid (.bytes x) (dOf c kk) = dOf { c with dcid := x } kk := rfl
theorem ds_token (x : List UInt8) : putN' .token (.bytes x) (dOf c kk) = dOf { c with token := x } kk := rfl
theorem ds_now (x : Nat) : putN' .now (.int x) (dOf c kk) = dOf { c with now := x } kk := rfl
theorem ds_born (x : Nat) : putN' .born (.int x) (dOf c kk) = dOf { c with born := x } kk := rfl
theorem ds_led (x : Bool) : putN' .is_led (.bool x) (dOf c kk) = dOf { c with led := x } kk := rfl
theorem ds_done (x : Bool) : putN' .is_done (.bool x) (dOf c kk) = dOf { c with done := x } kk := rfl
end
structure CInv (c : CS) : Prop where
  ver : 1 ≤ c.ver ∧ c.ver ≤ 4
  known : c.known.length ≤ 2 ∧ ∀ v ∈ c.known, 1 ≤ v ∧ v ≤ 4
  first : c.first.length = 3
  dl : c.dcid.length ≤ 10 ∧ c.dcid ≠ []
  dcid : c.led = false → c.dcid = c.first
  token : c.token = [] ∨ c.token = tokenOf secret place c.first c.born
  time : c.born ≤ c.now ∧ c.now ≤ 1000 ∧ c.life ≤ 3
noncomputable def CAt (h : H) (kc kk : Nat) (c : CS) : Prop := h[kc]? = some (.dict (dOf c kk)) ∧ h[kk]? = some (.list (c.known.map .int))
theorem CAt.fr {S : List Nat} {h h' : H} {kc kk : Nat} {c : CS} (x : CAt h kc kk c) (fr : Fr S h h') (h1 : kc ∉ S) (h2 : kk ∉ S) : CAt h' kc kk c := ⟨fr.2 _ _ x.1 h1, fr.2 _ _ x.2 h2⟩
theorem tok_len {c : CS} (ci : CInv c) : c.token.length < 64 := by
  rcases ci.token with h | h
  · rw [h]; decide
  · have := ci.first
    have := tokBody_length c.first c.born
    rw [h]; simp [tokenOf, tagOf_length]; (first | lia | omega)
noncomputable def kdOf (c : CS) : N := if c.ver = 1 then .initial else .unknown
noncomputable def tkOf (c : CS) : List UInt8 := if c.ver = 1 then c.token else []
section
variable {w : World} {B : Heap}
noncomputable def FirstOk (w : World) (B : Heap) (c : CS) (D : List UInt8) : Prop := ∃ f D' fv, D = f :: D' ∧ 128 ≤ f.toNat ∧ ∀ (m : Nat) (h : H) (Q : K1), 6 ≤ m →
  (∀ h' k, Fr [] h h' → RawOk h' k (.str (kdOf c)) fv (.int c.ver) c.dcid own (tkOf c) [] D → Q (.obj k) h') → G w B m 242 [.bytes D, .int 0] h Q
theorem be4 {v : Nat} (h : v < 256) : beN 4 v = [0, 0, 0, v.toUInt8] := by
  unfold beN beN beN beN
  have e1 : v / 256 = 0 := by (first | lia | omega)
  rw [e1, Nat.mod_eq_of_lt h]
  rfl
theorem u8len {d : List UInt8} (h : d.length < 256) : (d.length.toUInt8).toNat = d.length := by rw [toU8]; (first | lia | omega)
theorem octets5 {v : Nat} (h : v < 256) : octetsOf [.int 195, .int 0, .int 0, .int 0, .int v] = some (195 :: beN 4 v) := by
  rw [be4 h]
  unfold octetsOf octetsOf octetsOf octetsOf
  rw [octetsOf_one h]
  rfl
theorem c_law_first (bs : Base w B) (tb : Tabs B) {c : CS} {kc kk m : Nat} {h : H} {Q : K1} (ca : CAt h kc kk c) (ci : CInv c) (hm : 6 ≤ m) (q : ∀ h' D, Fr [] h h' → FirstOk w B c D → D.length ≤ 500 → Q (.bytes D) h') : G w B m 471 [.obj kc] h Q := by
  refine fn_go bs tb (f_law_first _) (by first | exact mm hm | exact m1 hm | decide | (first | lia | omega)) [some (.obj kc)] rfl rfl ?_
  have e := ca.1
  have hv := ci.ver
  have hd := ci.dl.1
  have ht := tok_len ci
  have e5 : ∀ o, (h ++ [o])[kc]? = some (.dict (dOf c kk)) := fun o => by rw [List.getElem?_append_left (lt_of e)]; exact e
  simp only [b_law_first, wpSs,↓xD,↓xG,↓vA,↓vC,↓vD,↓vE,↓vF,↓vH,↓vM,↓vO,↓vP,↓vQ,↓vS,↓vV,↓wG,wpEs,wpOr,wpAnd,↓tB,↓tD,↓yA,↓yB,wpIt,wpBin,cmpV,eqO,eqV,inV,seqOf,wpIdx,wpSlc,wpBytes,wpLen,wpIndex,wpSetItem,wpSetAttr,wpAttr,initOf,methN,posOf,sizesL,kindsL,frees,putF,getN,zA,zB,zC,zD,zE,zF,zG,qA,qB,qC,qD,qE,qF,reduceCtorEq,↓reduceIte,qG,zH,zI,zJ,zK,zL,zM,zN,qH,qI,zO,zP,zQ,zR,qJ,zS,zT,Nat.reduceAdd,Nat.reduceLT,Int.reduceLT,Int.reduceLE,Int.reduceNeg,Int.reduceSub,Int.reduceMul,Int.reduceAdd,Int.reduceToNat,qO,qP,zU,zV,zW,zX,zY,zZ,aR1,aR2,aW1,aW2,aW3,aW4,aW5,aW6,aW7,aW8,aW9,aWa,aWb,qK,qL,qM,qN,ggA,ssA,ggB,ssB,ggC,ssC,ggD,ssD,ggE,ssE,ggF,ssF,ggG,ssG,ggH,ssH,ggI,ssI,ggJ,ssJ,ggK,ssK,rawF_len, e, e5, dg_ver, dg_known, dg_dcid, dg_first, dg_scid, dg_token, dg_now, dg_born, dg_life, dg_led, dg_done]
  refine (iteA (fun hh => ?_) (fun hh => ?_))
  · have h1 : c.ver = 1 := by have := of_decide_eq_true hh; (first | lia | omega)
    refine c_put_packet bs tb (d := c.dcid) (s := own) (tok := c.token) (get_last _ _) (by first | exact mm hm | exact m1 hm | decide | (first | lia | omega)) (by decide) ht (by first | exact mm hm | exact m1 hm | decide | (first | lia | omega)) fun h' f1 x fr hf hx => ?_
    refine q _ _ ((Fr.app _ _).trans fr) ⟨f1, _, .int f1.toNat, rfl, by (first | lia | omega), fun m h Q hm q => ?_⟩ (by simp [headI, beN_length, ids_length]; (first | lia | omega))
    refine c_read_long_initial bs tb (f := f1) (ld := c.dcid.length.toUInt8) (ls := 3) (bt := c.token.length.toUInt8) (d := c.dcid) (s := own) (tok := c.token) (x := x) hf (u8len (by first | exact mm hm | exact m1 hm | decide | (first | lia | omega))) rfl (by first | exact mm hm | exact m1 hm | decide | (first | lia | omega)) (by decide) (u8len (by first | exact mm hm | exact m1 hm | decide | (first | lia | omega))) ht hx (by first | exact mm hm | exact m1 hm | decide | (first | lia | omega)) (by simp [headI, ids]) fun h' k vs na fr e => q h' k fr ⟨vs, na, ?_⟩
    unfold kdOf tkOf
    rw [if_pos h1, if_pos h1, h1]
    exact e
  · have h1 : c.ver ≠ 1 := by have := of_decide_eq_false hh; (first | lia | omega)
    simp only [tl_law_first_1, wpSs,↓xD,↓xG,↓vA,↓vC,↓vD,↓vE,↓vF,↓vH,↓vM,↓vO,↓vP,↓vQ,↓vS,↓vV,↓wG,wpEs,wpOr,wpAnd,↓tB,↓tD,↓yA,↓yB,wpIt,wpBin,cmpV,eqO,eqV,inV,seqOf,wpIdx,wpSlc,wpBytes,wpLen,wpIndex,wpSetItem,wpSetAttr,wpAttr,initOf,methN,posOf,sizesL,kindsL,frees,putF,getN,zA,zB,zC,zD,zE,zF,zG,qA,qB,qC,qD,qE,qF,reduceCtorEq,↓reduceIte,qG,zH,zI,zJ,zK,zL,zM,zN,qH,qI,zO,zP,zQ,zR,qJ,zS,zT,Nat.reduceAdd,Nat.reduceLT,Int.reduceLT,Int.reduceLE,Int.reduceNeg,Int.reduceSub,Int.reduceMul,Int.reduceAdd,Int.reduceToNat,qO,qP,zU,zV,zW,zX,zY,zZ,aR1,aR2,aW1,aW2,aW3,aW4,aW5,aW6,aW7,aW8,aW9,aWa,aWb,qK,qL,qM,qN,ggA,ssA,ggB,ssB,ggC,ssC,ggD,ssD,ggE,ssE,ggF,ssF,ggG,ssG,ggH,ssH,ggI,ssI,ggJ,ssJ,ggK,ssK,rawF_len, e, e5, dg_ver, dg_known, dg_dcid, dg_first, dg_scid, dg_token, dg_now, dg_born, dg_life, dg_led, dg_done]
    rw [octets5 (by first | exact mm hm | exact m1 hm | decide | (first | lia | omega))]
    refine ⟨by simp [beN_length], c_put_ids bs tb (by first | exact mm hm | exact m1 hm | decide | (first | lia | omega)) (by decide) (by first | exact mm hm | exact m1 hm | decide | (first | lia | omega)) fun h' fr => ?_⟩
    simp only [wpSs,↓xD,↓xG,↓vA,↓vC,↓vD,↓vE,↓vF,↓vH,↓vM,↓vO,↓vP,↓vQ,↓vS,↓vV,↓wG,wpEs,wpOr,wpAnd,↓tB,↓tD,↓yA,↓yB,wpIt,wpBin,cmpV,eqO,eqV,inV,seqOf,wpIdx,wpSlc,wpBytes,wpLen,wpIndex,wpSetItem,wpSetAttr,wpAttr,initOf,methN,posOf,sizesL,kindsL,frees,putF,getN,zA,zB,zC,zD,zE,zF,zG,qA,qB,qC,qD,qE,qF,reduceCtorEq,↓reduceIte,qG,zH,zI,zJ,zK,zL,zM,zN,qH,qI,zO,zP,zQ,zR,qJ,zS,zT,Nat.reduceAdd,Nat.reduceLT,Int.reduceLT,Int.reduceLE,Int.reduceNeg,Int.reduceSub,Int.reduceMul,Int.reduceAdd,Int.reduceToNat,qO,qP,zU,zV,zW,zX,zY,zZ,aR1,aR2,aW1,aW2,aW3,aW4,aW5,aW6,aW7,aW8,aW9,aWa,aWb,qK,qL,qM,qN,ggA,ssA,ggB,ssB,ggC,ssC,ggD,ssD,ggE,ssE,ggF,ssF,ggG,ssG,ggH,ssH,ggI,ssI,ggJ,ssJ,ggK,ssK,rawF_len]
    refine ⟨by simp [beN_length, ids_length]; (first | lia | omega), by simp [beN_length, ids_length]; (first | lia | omega), ?_⟩
    refine q _ _ ((Fr.app _ _).trans fr) ⟨195, _, .int 195, rfl, by decide, fun m h Q hm q => ?_⟩ (by simp [beN_length, ids_length]; (first | lia | omega))
    have e4 : ofBe (beN 4 c.ver) = c.ver := ofBe_beN 4 c.ver (by first | exact mm hm | exact m1 hm | decide | (first | lia | omega))
    refine c_read_long_unk bs tb (f := 195) (ld := c.dcid.length.toUInt8) (ls := 3) (v4 := beN 4 c.ver) (d := c.dcid) (s := own) (r := [119, 104, 97, 116, 32, 101, 108, 115, 101]) (beN_length _ _) (by rw [e4]; (first | lia | omega)) (u8len (by first | exact mm hm | exact m1 hm | decide | (first | lia | omega))) rfl (by first | exact mm hm | exact m1 hm | decide | (first | lia | omega)) (by simp [ids]) fun h' k vs fr e => q h' k fr ⟨vs, .int 0, ?_⟩
    unfold kdOf tkOf
    rw [if_neg h1, if_neg h1, ← e4]
    exact e
theorem place_ne (body : List UInt8) : tagOf secret plbce.length plbce body ≠ tagOf secret place.length place body := fun h => by
  have := tag_one (key := secret) (n := 5) (head := plbce) (head' := place) (body := body) (body' := body) (p := beN 4 5 ++ [112, 108]) (r := [99, 101] ++ body) (a := 98) (b := 97) (by simp) (by simp) h
  cases this
theorem c_check_right (bs : Base w B) (tb : Tabs B) {c : CS} {m : Nat} {h : H} {Q : K1} (ci : CInv c) (h1 : c.token = tokenOf secret place c.first c.born) (hm : 3 ≤ m)
    (q : ∀ h', Fr [] h h' → Q (if decide ((c.now : Int) ≤ c.born + c.life) = true then .bytes c.first else .none) h') : G w B m 401 [.bytes secret, .bytes place, .bytes c.token, .int c.now, .int c.life] h Q := by
  rw [h1]
  have ht := ci.time
  have hf := ci.first
  refine c_check bs tb (secret := secret) (address := place) (od := c.first) (tag := tagOf secret place.length place (tokBody c.first c.born)) (t := c.born) (tagOf_length _ _ _ _) (by first | exact mm hm | exact m1 hm | decide | (first | lia | omega)) (by first | exact mm hm | exact m1 hm | decide | (first | lia | omega)) (by decide) hm fun h' fr => ?_
  have := q h' fr
  by_cases hc : (c.now : Int) ≤ c.born + c.life
  · rw [if_pos (decide_eq_true hc)] at this
    rw [if_pos ⟨rfl, by (first | lia | omega), hc⟩]; exact this
  · rw [if_neg (by simpa using hc)] at this
    rw [if_neg (fun z => hc z.2.2)]; exact this
theorem c_check_wrong (bs : Base w B) (tb : Tabs B) {c : CS} {m : Nat} {h : H} {Q : K1} (ci : CInv c) (h1 : c.token = tokenOf secret place c.first c.born) (hm : 3 ≤ m) (q : ∀ h', Fr [] h h' → Q .none h') :
    G w B m 401 [.bytes secret, .bytes plbce, .bytes c.token, .int c.now, .int c.life] h Q := by
  rw [h1]
  have ht := ci.time
  have hf := ci.first
  refine c_check bs tb (secret := secret) (address := plbce) (od := c.first) (tag := tagOf secret place.length place (tokBody c.first c.born)) (t := c.born) (tagOf_length _ _ _ _) (by first | exact mm hm | exact m1 hm | decide | (first | lia | omega)) (by first | exact mm hm | exact m1 hm | decide | (first | lia | omega)) (by decide) hm fun h' fr => ?_
  rw [if_neg (fun z => place_ne _ z.1)]
  exact q h' fr
theorem sr_7 (bs : Base w B) (tb : Tabs B) {c : CS} {kc kk kr m : Nat} {D : List UInt8} {fv due : V} {o3 : Option V} {h : H} {Q : K1} (ca : CAt h kc kk c) (ci : CInv c) (hv : c.ver = 1) (r : RawOk h kr (.str (kdOf c)) fv (.int c.ver) c.dcid own (tkOf c) [] D) (hm : 4 ≤ m)
    (hd : due = if c.token = [] then .none else if decide ((c.now : Int) ≤ c.born + c.life) = true then .bytes c.first else .none) (q : ∀ h', Fr [] h h' → Q (.bool true) h') :
    wpSs (G w B m) tl_law_server_right_7 [some (.obj kc), some (.bytes D), some (.obj kr), o3, some due] h fun fl _ h' => match fl with | .ret v => Q v h' | .next => Q .none h' | .brk => False := by
  obtain ⟨vs, na, er⟩ := r
  unfold tkOf at er
  rw [if_pos hv] at er
  have e := ca.1
  rcases ci.token with h1 | h1
  · rw [if_pos h1] at hd
    subst hd
    simp only [tl_law_server_right_7, wpSs,↓xB,↓xD,↓xG,↓xH,↓vA,↓vB,↓vC,↓vD,↓vE,↓vF,↓vH,↓vK,↓vL,↓vM,↓vO,↓vP,↓vQ,↓vS,↓wF,↓wG,wpEs,wpOr,wpAnd,↓tA,↓tB,↓tD,↓tE,↓yA,↓yB,wpIt,wpBin,cmpV,eqO,eqV,inV,seqOf,wpIdx,wpSlc,wpBytes,wpLen,wpIndex,wpSetItem,wpSetAttr,wpAttr,initOf,methN,posOf,sizesL,kindsL,frees,putF,getN,zA,zB,zC,zD,zE,zF,zG,qA,qB,qC,qD,qE,qF,reduceCtorEq,↓reduceIte,qG,zH,zI,zJ,zK,zL,zM,zN,qH,qI,zO,zP,zQ,zR,qJ,zS,zT,Nat.reduceAdd,Nat.reduceLT,Int.reduceLT,Int.reduceLE,Int.reduceNeg,Int.reduceSub,Int.reduceMul,Int.reduceAdd,Int.reduceToNat,qO,qP,zU,zV,zW,zX,zY,zZ,aR1,aR2,aW1,aW2,aW3,aW4,aW5,aW6,aW7,aW8,aW9,aWa,aWb,qK,qL,qM,qN,ggA,ssA,ggB,ssB,ggC,ssC,ggD,ssD,ggE,ssE,ggF,ssF,ggG,ssG,ggH,ssH,ggI,ssI,ggJ,ssJ,ggK,ssK,rawF_len, e, er, dg_ver, dg_known, dg_dcid, dg_first, dg_scid, dg_token, dg_now, dg_born, dg_life, dg_led, dg_done]
    rw [h1]
    refine c_check_nil bs tb (by first | exact mm hm | exact m1 hm | decide | (first | lia | omega)) ?_
    simp only [wpSs,↓xB,↓xD,↓xG,↓xH,↓vA,↓vB,↓vC,↓vD,↓vE,↓vF,↓vH,↓vK,↓vL,↓vM,↓vO,↓vP,↓vQ,↓vS,↓wF,↓wG,wpEs,wpOr,wpAnd,↓tA,↓tB,↓tD,↓tE,↓yA,↓yB,wpIt,wpBin,cmpV,eqO,eqV,inV,seqOf,wpIdx,wpSlc,wpBytes,wpLen,wpIndex,wpSetItem,wpSetAttr,wpAttr,initOf,methN,posOf,sizesL,kindsL,frees,putF,getN,zA,zB,zC,zD,zE,zF,zG,qA,qB,qC,qD,qE,qF,reduceCtorEq,↓reduceIte,qG,zH,zI,zJ,zK,zL,zM,zN,qH,qI,zO,zP,zQ,zR,qJ,zS,zT,Nat.reduceAdd,Nat.reduceLT,Int.reduceLT,Int.reduceLE,Int.reduceNeg,Int.reduceSub,Int.reduceMul,Int.reduceAdd,Int.reduceToNat,qO,qP,zU,zV,zW,zX,zY,zZ,aR1,aR2,aW1,aW2,aW3,aW4,aW5,aW6,aW7,aW8,aW9,aWa,aWb,qK,qL,qM,qN,ggA,ssA,ggB,ssB,ggC,ssC,ggD,ssD,ggE,ssE,ggF,ssF,ggG,ssG,ggH,ssH,ggI,ssI,ggJ,ssJ,ggK,ssK,rawF_len]
    simp only [tl_law_server_right_8, wpSs,↓xB,↓xD,↓xG,↓xH,↓vA,↓vB,↓vC,↓vD,↓vE,↓vF,↓vH,↓vK,↓vL,↓vM,↓vO,↓vP,↓vQ,↓vS,↓wF,↓wG,wpEs,wpOr,wpAnd,↓tA,↓tB,↓tD,↓tE,↓yA,↓yB,wpIt,wpBin,cmpV,eqO,eqV,inV,seqOf,wpIdx,wpSlc,wpBytes,wpLen,wpIndex,wpSetItem,wpSetAttr,wpAttr,initOf,methN,posOf,sizesL,kindsL,frees,putF,getN,zA,zB,zC,zD,zE,zF,zG,qA,qB,qC,qD,qE,qF,reduceCtorEq,↓reduceIte,qG,zH,zI,zJ,zK,zL,zM,zN,qH,qI,zO,zP,zQ,zR,qJ,zS,zT,Nat.reduceAdd,Nat.reduceLT,Int.reduceLT,Int.reduceLE,Int.reduceNeg,Int.reduceSub,Int.reduceMul,Int.reduceAdd,Int.reduceToNat,qO,qP,zU,zV,zW,zX,zY,zZ,aR1,aR2,aW1,aW2,aW3,aW4,aW5,aW6,aW7,aW8,aW9,aWa,aWb,qK,qL,qM,qN,ggA,ssA,ggB,ssB,ggC,ssC,ggD,ssD,ggE,ssE,ggF,ssF,ggG,ssG,ggH,ssH,ggI,ssI,ggJ,ssJ,ggK,ssK,rawF_len, e, er, dg_ver, dg_known, dg_dcid, dg_first, dg_scid, dg_token, dg_now, dg_born, dg_life, dg_led, dg_done]
    rw [h1]
    refine c_check_nil bs tb (by first | exact mm hm | exact m1 hm | decide | (first | lia | omega)) ?_
    exact q h (Fr.refl h)
  · rw [if_neg (by rw [h1]; unfold tokenOf tokBody beN; simp)] at hd
    simp only [tl_law_server_right_7, wpSs,↓xB,↓xD,↓xG,↓xH,↓vA,↓vB,↓vC,↓vD,↓vE,↓vF,↓vH,↓vK,↓vL,↓vM,↓vO,↓vP,↓vQ,↓vS,↓wF,↓wG,wpEs,wpOr,wpAnd,↓tA,↓tB,↓tD,↓tE,↓yA,↓yB,wpIt,wpBin,cmpV,eqO,eqV,inV,seqOf,wpIdx,wpSlc,wpBytes,wpLen,wpIndex,wpSetItem,wpSetAttr,wpAttr,initOf,methN,posOf,sizesL,kindsL,frees,putF,getN,zA,zB,zC,zD,zE,zF,zG,qA,qB,qC,qD,qE,qF,reduceCtorEq,↓reduceIte,qG,zH,zI,zJ,zK,zL,zM,zN,qH,qI,zO,zP,zQ,zR,qJ,zS,zT,Nat.reduceAdd,Nat.reduceLT,Int.reduceLT,Int.reduceLE,Int.reduceNeg,Int.reduceSub,Int.reduceMul,Int.reduceAdd,Int.reduceToNat,qO,qP,zU,zV,zW,zX,zY,zZ,aR1,aR2,aW1,aW2,aW3,aW4,aW5,aW6,aW7,aW8,aW9,aWa,aWb,qK,qL,qM,qN,ggA,ssA,ggB,ssB,ggC,ssC,ggD,ssD,ggE,ssE,ggF,ssF,ggG,ssG,ggH,ssH,ggI,ssI,ggJ,ssJ,ggK,ssK,rawF_len, e, er, dg_ver, dg_known, dg_dcid, dg_first, dg_scid, dg_token, dg_now, dg_born, dg_life, dg_led, dg_done]
    refine c_check_right bs tb ci h1 (by first | exact mm hm | exact m1 hm | decide | (first | lia | omega)) fun h2 fr2 => ?_
    rw [← hd]
    have e2 := fr2.2 _ _ e (by simp)
    have er2 := fr2.2 _ _ er (by simp)
    have tl : wpSs (G w B m) tl_law_server_right_8 [some (.obj kc), some (.bytes D), some (.obj kr), o3, some due] h2 fun fl _ h' => match fl with | .ret v => Q v h' | .next => Q .none h' | .brk => False := by
      simp only [tl_law_server_right_8, wpSs,↓xB,↓xD,↓xG,↓xH,↓vA,↓vB,↓vC,↓vD,↓vE,↓vF,↓vH,↓vK,↓vL,↓vM,↓vO,↓vP,↓vQ,↓vS,↓wF,↓wG,wpEs,wpOr,wpAnd,↓tA,↓tB,↓tD,↓tE,↓yA,↓yB,wpIt,wpBin,cmpV,eqO,eqV,inV,seqOf,wpIdx,wpSlc,wpBytes,wpLen,wpIndex,wpSetItem,wpSetAttr,wpAttr,initOf,methN,posOf,sizesL,kindsL,frees,putF,getN,zA,zB,zC,zD,zE,zF,zG,qA,qB,qC,qD,qE,qF,reduceCtorEq,↓reduceIte,qG,zH,zI,zJ,zK,zL,zM,zN,qH,qI,zO,zP,zQ,zR,qJ,zS,zT,Nat.reduceAdd,Nat.reduceLT,Int.reduceLT,Int.reduceLE,Int.reduceNeg,Int.reduceSub,Int.reduceMul,Int.reduceAdd,Int.reduceToNat,qO,qP,zU,zV,zW,zX,zY,zZ,aR1,aR2,aW1,aW2,aW3,aW4,aW5,aW6,aW7,aW8,aW9,aWa,aWb,qK,qL,qM,qN,ggA,ssA,ggB,ssB,ggC,ssC,ggD,ssD,ggE,ssE,ggF,ssF,ggG,ssG,ggH,ssH,ggI,ssI,ggJ,ssJ,ggK,ssK,rawF_len, e2, er2, dg_ver, dg_known, dg_dcid, dg_first, dg_scid, dg_token, dg_now, dg_born, dg_life, dg_led, dg_done]
      refine c_check_wrong bs tb ci h1 (by first | exact mm hm | exact m1 hm | decide | (first | lia | omega)) fun h3 fr3 => ?_
      exact q h3 (fr2.trans fr3)
    split at hd
    · subst hd; simp only [wpSs,↓xB,↓xD,↓xG,↓xH,↓vA,↓vB,↓vC,↓vD,↓vE,↓vF,↓vH,↓vK,↓vL,↓vM,↓vO,↓vP,↓vQ,↓vS,↓wF,↓wG,wpEs,wpOr,wpAnd,↓tA,↓tB,↓tD,↓tE,↓yA,↓yB,wpIt,wpBin,cmpV,eqO,eqV,inV,seqOf,wpIdx,wpSlc,wpBytes,wpLen,wpIndex,wpSetItem,wpSetAttr,wpAttr,initOf,methN,posOf,sizesL,kindsL,frees,putF,getN,zA,zB,zC,zD,zE,zF,zG,qA,qB,qC,qD,qE,qF,reduceCtorEq,↓reduceIte,qG,zH,zI,zJ,zK,zL,zM,zN,qH,qI,zO,zP,zQ,zR,qJ,zS,zT,Nat.reduceAdd,Nat.reduceLT,Int.reduceLT,Int.reduceLE,Int.reduceNeg,Int.reduceSub,Int.reduceMul,Int.reduceAdd,Int.reduceToNat,qO,qP,zU,zV,zW,zX,zY,zZ,aR1,aR2,aW1,aW2,aW3,aW4,aW5,aW6,aW7,aW8,aW9,aWa,aWb,qK,qL,qM,qN,ggA,ssA,ggB,ssB,ggC,ssC,ggD,ssD,ggE,ssE,ggF,ssF,ggG,ssG,ggH,ssH,ggI,ssI,ggJ,ssJ,ggK,ssK,rawF_len]; exact tl
    · subst hd; simp only [wpSs,↓xB,↓xD,↓xG,↓xH,↓vA,↓vB,↓vC,↓vD,↓vE,↓vF,↓vH,↓vK,↓vL,↓vM,↓vO,↓vP,↓vQ,↓vS,↓wF,↓wG,wpEs,wpOr,wpAnd,↓tA,↓tB,↓tD,↓tE,↓yA,↓yB,wpIt,wpBin,cmpV,eqO,eqV,inV,seqOf,wpIdx,wpSlc,wpBytes,wpLen,wpIndex,wpSetItem,wpSetAttr,wpAttr,initOf,methN,posOf,sizesL,kindsL,frees,putF,getN,zA,zB,zC,zD,zE,zF,zG,qA,qB,qC,qD,qE,qF,reduceCtorEq,↓reduceIte,qG,zH,zI,zJ,zK,zL,zM,zN,qH,qI,zO,zP,zQ,zR,qJ,zS,zT,Nat.reduceAdd,Nat.reduceLT,Int.reduceLT,Int.reduceLE,Int.reduceNeg,Int.reduceSub,Int.reduceMul,Int.reduceAdd,Int.reduceToNat,qO,qP,zU,zV,zW,zX,zY,zZ,aR1,aR2,aW1,aW2,aW3,aW4,aW5,aW6,aW7,aW8,aW9,aWa,aWb,qK,qL,qM,qN,ggA,ssA,ggB,ssB,ggC,ssC,ggD,ssD,ggE,ssE,ggF,ssF,ggG,ssG,ggH,ssH,ggI,ssI,ggJ,ssJ,ggK,ssK,rawF_len]; exact tl
theorem c_server_right2 (bs : Base w B) (tb : Tabs B) {c : CS} {kc kk kr m : Nat} {D : List UInt8} {fv : V} {h : H} {Q : K1} (ca : CAt h kc kk c) (ci : CInv c) (hv : c.ver = 1) (r : RawOk h kr (.str (kdOf c)) fv (.int c.ver) c.dcid own (tkOf c) [] D) (hm : 4 ≤ m)
    (q : ∀ h', Fr [] h h' → Q (.bool true) h') : wpSs (G w B m) tl_law_server_right_5 [some (.obj kc), some (.bytes D), some (.obj kr), none, none] h fun fl _ h' => match fl with | .ret v => Q v h' | .next => Q .none h' | .brk => False := by
  have e := ca.1
  by_cases h1 : c.token = []
  · have d0 : decide (c.token = []) = true := decide_eq_true h1
    simp only [tl_law_server_right_5, wpSs,↓xB,↓xD,↓xG,↓xH,↓vA,↓vB,↓vC,↓vD,↓vE,↓vF,↓vH,↓vK,↓vL,↓vM,↓vO,↓vP,↓vQ,↓vS,↓wF,↓wG,wpEs,wpOr,wpAnd,↓tA,↓tB,↓tD,↓tE,↓yA,↓yB,wpIt,wpBin,cmpV,eqO,eqV,inV,seqOf,wpIdx,wpSlc,wpBytes,wpLen,wpIndex,wpSetItem,wpSetAttr,wpAttr,initOf,methN,posOf,sizesL,kindsL,frees,putF,getN,zA,zB,zC,zD,zE,zF,zG,qA,qB,qC,qD,qE,qF,reduceCtorEq,↓reduceIte,qG,zH,zI,zJ,zK,zL,zM,zN,qH,qI,zO,zP,zQ,zR,qJ,zS,zT,Nat.reduceAdd,Nat.reduceLT,Int.reduceLT,Int.reduceLE,Int.reduceNeg,Int.reduceSub,Int.reduceMul,Int.reduceAdd,Int.reduceToNat,qO,qP,zU,zV,zW,zX,zY,zZ,aR1,aR2,aW1,aW2,aW3,aW4,aW5,aW6,aW7,aW8,aW9,aWa,aWb,qK,qL,qM,qN,ggA,ssA,ggB,ssB,ggC,ssC,ggD,ssD,ggE,ssE,ggF,ssF,ggG,ssG,ggH,ssH,ggI,ssI,ggJ,ssJ,ggK,ssK,rawF_len, e, dg_ver, dg_known, dg_dcid, dg_first, dg_scid, dg_token, dg_now, dg_born, dg_life, dg_led, dg_done, d0]
    simp only [tl_law_server_right_6, wpSs,↓xB,↓xD,↓xG,↓xH,↓vA,↓vB,↓vC,↓vD,↓vE,↓vF,↓vH,↓vK,↓vL,↓vM,↓vO,↓vP,↓vQ,↓vS,↓wF,↓wG,wpEs,wpOr,wpAnd,↓tA,↓tB,↓tD,↓tE,↓yA,↓yB,wpIt,wpBin,cmpV,eqO,eqV,inV,seqOf,wpIdx,wpSlc,wpBytes,wpLen,wpIndex,wpSetItem,wpSetAttr,wpAttr,initOf,methN,posOf,sizesL,kindsL,frees,putF,getN,zA,zB,zC,zD,zE,zF,zG,qA,qB,qC,qD,qE,qF,reduceCtorEq,↓reduceIte,qG,zH,zI,zJ,zK,zL,zM,zN,qH,qI,zO,zP,zQ,zR,qJ,zS,zT,Nat.reduceAdd,Nat.reduceLT,Int.reduceLT,Int.reduceLE,Int.reduceNeg,Int.reduceSub,Int.reduceMul,Int.reduceAdd,Int.reduceToNat,qO,qP,zU,zV,zW,zX,zY,zZ,aR1,aR2,aW1,aW2,aW3,aW4,aW5,aW6,aW7,aW8,aW9,aWa,aWb,qK,qL,qM,qN,ggA,ssA,ggB,ssB,ggC,ssC,ggD,ssD,ggE,ssE,ggF,ssF,ggG,ssG,ggH,ssH,ggI,ssI,ggJ,ssJ,ggK,ssK,rawF_len, e, dg_ver, dg_known, dg_dcid, dg_first, dg_scid, dg_token, dg_now, dg_born, dg_life, dg_led, dg_done]
    exact sr_7 bs tb ca ci hv r hm (by rw [if_pos h1]) q
  · have d0 : decide (c.token = []) = false := decide_eq_false h1
    simp only [tl_law_server_right_5, wpSs,↓xB,↓xD,↓xG,↓xH,↓vA,↓vB,↓vC,↓vD,↓vE,↓vF,↓vH,↓vK,↓vL,↓vM,↓vO,↓vP,↓vQ,↓vS,↓wF,↓wG,wpEs,wpOr,wpAnd,↓tA,↓tB,↓tD,↓tE,↓yA,↓yB,wpIt,wpBin,cmpV,eqO,eqV,inV,seqOf,wpIdx,wpSlc,wpBytes,wpLen,wpIndex,wpSetItem,wpSetAttr,wpAttr,initOf,methN,posOf,sizesL,kindsL,frees,putF,getN,zA,zB,zC,zD,zE,zF,zG,qA,qB,qC,qD,qE,qF,reduceCtorEq,↓reduceIte,qG,zH,zI,zJ,zK,zL,zM,zN,qH,qI,zO,zP,zQ,zR,qJ,zS,zT,Nat.reduceAdd,Nat.reduceLT,Int.reduceLT,Int.reduceLE,Int.reduceNeg,Int.reduceSub,Int.reduceMul,Int.reduceAdd,Int.reduceToNat,qO,qP,zU,zV,zW,zX,zY,zZ,aR1,aR2,aW1,aW2,aW3,aW4,aW5,aW6,aW7,aW8,aW9,aWa,aWb,qK,qL,qM,qN,ggA,ssA,ggB,ssB,ggC,ssC,ggD,ssD,ggE,ssE,ggF,ssF,ggG,ssG,ggH,ssH,ggI,ssI,ggJ,ssJ,ggK,ssK,rawF_len, e, dg_ver, dg_known, dg_dcid, dg_first, dg_scid, dg_token, dg_now, dg_born, dg_life, dg_led, dg_done, d0]
    by_cases h2 : decide ((c.now : Int) ≤ c.born + c.life) = true
    · simp only [h2]
      simp only [tl_law_server_right_6, wpSs,↓xB,↓xD,↓xG,↓xH,↓vA,↓vB,↓vC,↓vD,↓vE,↓vF,↓vH,↓vK,↓vL,↓vM,↓vO,↓vP,↓vQ,↓vS,↓wF,↓wG,wpEs,wpOr,wpAnd,↓tA,↓tB,↓tD,↓tE,↓yA,↓yB,wpIt,wpBin,cmpV,eqO,eqV,inV,seqOf,wpIdx,wpSlc,wpBytes,wpLen,wpIndex,wpSetItem,wpSetAttr,wpAttr,initOf,methN,posOf,sizesL,kindsL,frees,putF,getN,zA,zB,zC,zD,zE,zF,zG,qA,qB,qC,qD,qE,qF,reduceCtorEq,↓reduceIte,qG,zH,zI,zJ,zK,zL,zM,zN,qH,qI,zO,zP,zQ,zR,qJ,zS,zT,Nat.reduceAdd,Nat.reduceLT,Int.reduceLT,Int.reduceLE,Int.reduceNeg,Int.reduceSub,Int.reduceMul,Int.reduceAdd,Int.reduceToNat,qO,qP,zU,zV,zW,zX,zY,zZ,aR1,aR2,aW1,aW2,aW3,aW4,aW5,aW6,aW7,aW8,aW9,aWa,aWb,qK,qL,qM,qN,ggA,ssA,ggB,ssB,ggC,ssC,ggD,ssD,ggE,ssE,ggF,ssF,ggG,ssG,ggH,ssH,ggI,ssI,ggJ,ssJ,ggK,ssK,rawF_len, e, dg_ver, dg_known, dg_dcid, dg_first, dg_scid, dg_token, dg_now, dg_born, dg_life, dg_led, dg_done]
      exact sr_7 bs tb ca ci hv r hm (by rw [if_neg h1, if_pos h2]) q
    · simp only [h2]
      simp only [tl_law_server_right_6, wpSs,↓xB,↓xD,↓xG,↓xH,↓vA,↓vB,↓vC,↓vD,↓vE,↓vF,↓vH,↓vK,↓vL,↓vM,↓vO,↓vP,↓vQ,↓vS,↓wF,↓wG,wpEs,wpOr,wpAnd,↓tA,↓tB,↓tD,↓tE,↓yA,↓yB,wpIt,wpBin,cmpV,eqO,eqV,inV,seqOf,wpIdx,wpSlc,wpBytes,wpLen,wpIndex,wpSetItem,wpSetAttr,wpAttr,initOf,methN,posOf,sizesL,kindsL,frees,putF,getN,zA,zB,zC,zD,zE,zF,zG,qA,qB,qC,qD,qE,qF,reduceCtorEq,↓reduceIte,qG,zH,zI,zJ,zK,zL,zM,zN,qH,qI,zO,zP,zQ,zR,qJ,zS,zT,Nat.reduceAdd,Nat.reduceLT,Int.reduceLT,Int.reduceLE,Int.reduceNeg,Int.reduceSub,Int.reduceMul,Int.reduceAdd,Int.reduceToNat,qO,qP,zU,zV,zW,zX,zY,zZ,aR1,aR2,aW1,aW2,aW3,aW4,aW5,aW6,aW7,aW8,aW9,aWa,aWb,qK,qL,qM,qN,ggA,ssA,ggB,ssB,ggC,ssC,ggD,ssD,ggE,ssE,ggF,ssF,ggG,ssG,ggH,ssH,ggI,ssI,ggJ,ssJ,ggK,ssK,rawF_len, e, dg_ver, dg_known, dg_dcid, dg_first, dg_scid, dg_token, dg_now, dg_born, dg_life, dg_led, dg_done]
      exact sr_7 bs tb ca ci hv r hm (by rw [if_neg h1, if_neg h2]) q
theorem c_server_right (bs : Base w B) (tb : Tabs B) {c : CS} {kc kk m : Nat} {h : H} {Q : K1} (ca : CAt h kc kk c) (ci : CInv c) (hm : 10 ≤ m) (q : ∀ h', Fr [] h h' → Q (.bool true) h') : G w B m 490 [.obj kc] h Q := by
  refine fn_go bs tb (f_law_server_right _) (by first | exact mm hm | exact m1 hm | decide | (first | lia | omega)) [some (.obj kc), none, none, none, none] rfl rfl ?_
  simp only [b_law_server_right, wpSs,↓xB,↓xD,↓xG,↓vA,↓vB,↓vC,↓vD,↓vE,↓vF,↓vH,↓vK,↓vL,↓vM,↓vO,↓vP,↓vQ,↓vS,↓wF,↓wG,wpEs,wpOr,wpAnd,↓tA,↓tB,↓tD,↓tE,↓yA,↓yB,wpIt,wpBin,cmpV,eqO,eqV,inV,seqOf,wpIdx,wpSlc,wpBytes,wpLen,wpIndex,wpSetItem,wpSetAttr,wpAttr,initOf,methN,posOf,sizesL,kindsL,frees,putF,getN,zA,zB,zC,zD,zE,zF,zG,qA,qB,qC,qD,qE,qF,reduceCtorEq,↓reduceIte,qG,zH,zI,zJ,zK,zL,zM,zN,qH,qI,zO,zP,zQ,zR,qJ,zS,zT,Nat.reduceAdd,Nat.reduceLT,Int.reduceLT,Int.reduceLE,Int.reduceNeg,Int.reduceSub,Int.reduceMul,Int.reduceAdd,Int.reduceToNat,qO,qP,zU,zV,zW,zX,zY,zZ,aR1,aR2,aW1,aW2,aW3,aW4,aW5,aW6,aW7,aW8,aW9,aWa,aWb,qK,qL,qM,qN,ggA,ssA,ggB,ssB,ggC,ssC,ggD,ssD,ggE,ssE,ggF,ssF,ggG,ssG,ggH,ssH,ggI,ssI,ggJ,ssJ,ggK,ssK,rawF_len]
  refine c_law_first bs tb ca ci (by first | exact mm hm | exact m1 hm | decide | (first | lia | omega)) fun h1 D fr1 fo hDl => ?_
  have fo' := fo
  obtain ⟨f, D', fv, rfl, hf, rd⟩ := fo
  simp only [tl_law_server_right_1, wpSs,↓xB,↓xD,↓xG,↓vA,↓vB,↓vC,↓vD,↓vE,↓vF,↓vH,↓vK,↓vL,↓vM,↓vO,↓vP,↓vQ,↓vS,↓wF,↓wG,wpEs,wpOr,wpAnd,↓tA,↓tB,↓tD,↓tE,↓yA,↓yB,wpIt,wpBin,cmpV,eqO,eqV,inV,seqOf,wpIdx,wpSlc,wpBytes,wpLen,wpIndex,wpSetItem,wpSetAttr,wpAttr,initOf,methN,posOf,sizesL,kindsL,frees,putF,getN,zA,zB,zC,zD,zE,zF,zG,qA,qB,qC,qD,qE,qF,reduceCtorEq,↓reduceIte,qG,zH,zI,zJ,zK,zL,zM,zN,qH,qI,zO,zP,zQ,zR,qJ,zS,zT,Nat.reduceAdd,Nat.reduceLT,Int.reduceLT,Int.reduceLE,Int.reduceNeg,Int.reduceSub,Int.reduceMul,Int.reduceAdd,Int.reduceToNat,qO,qP,zU,zV,zW,zX,zY,zZ,aR1,aR2,aW1,aW2,aW3,aW4,aW5,aW6,aW7,aW8,aW9,aWa,aWb,qK,qL,qM,qN,ggA,ssA,ggB,ssB,ggC,ssC,ggD,ssD,ggE,ssE,ggF,ssF,ggG,ssG,ggH,ssH,ggI,ssI,ggJ,ssJ,ggK,ssK,rawF_len]
  refine c_split bs tb (kd := .str (kdOf c)) (fv := fv) (ver := .int c.ver) (d := c.dcid) (s := own) (tok := tkOf c) (tag := []) hf (by first | exact mm hm | exact m1 hm | decide | (first | lia | omega)) (fun h Q q => rd _ h Q (by first | exact mm hm | exact m1 hm | decide | (first | lia | omega)) q) fun h2 kf kr fr2 ef r2 => ?_
  have f2 := fr1.trans fr2
  simp only [wpSs,↓xB,↓xD,↓xG,↓vA,↓vB,↓vC,↓vD,↓vE,↓vF,↓vH,↓vK,↓vL,↓vM,↓vO,↓vP,↓vQ,↓vS,↓wF,↓wG,wpEs,wpOr,wpAnd,↓tA,↓tB,↓tD,↓tE,↓yA,↓yB,wpIt,wpBin,cmpV,eqO,eqV,inV,seqOf,wpIdx,wpSlc,wpBytes,wpLen,wpIndex,wpSetItem,wpSetAttr,wpAttr,initOf,methN,posOf,sizesL,kindsL,frees,putF,getN,zA,zB,zC,zD,zE,zF,zG,qA,qB,qC,qD,qE,qF,reduceCtorEq,↓reduceIte,qG,zH,zI,zJ,zK,zL,zM,zN,qH,qI,zO,zP,zQ,zR,qJ,zS,zT,Nat.reduceAdd,Nat.reduceLT,Int.reduceLT,Int.reduceLE,Int.reduceNeg,Int.reduceSub,Int.reduceMul,Int.reduceAdd,Int.reduceToNat,qO,qP,zU,zV,zW,zX,zY,zZ,aR1,aR2,aW1,aW2,aW3,aW4,aW5,aW6,aW7,aW8,aW9,aWa,aWb,qK,qL,qM,qN,ggA,ssA,ggB,ssB,ggC,ssC,ggD,ssD,ggE,ssE,ggF,ssF,ggG,ssG,ggH,ssH,ggI,ssI,ggJ,ssJ,ggK,ssK,rawF_len, ef]
  have ca2 := ca.fr f2 (by simp) (by simp)
  have e2 := ca2.1
  obtain ⟨vs, na, er⟩ := id r2
  have hkr := lt_of er
  have hkc := lt_of e2
  have e3 : ∀ o, (h2 ++ [o])[kc]? = some (.dict (dOf c kk)) := fun o => by rw [List.getElem?_append_left hkc]; exact e2
  have er3 : ∀ o, (h2 ++ [o])[kr]? = h2[kr]? := fun o => by rw [List.getElem?_append_left hkr]
  have e4 : ∀ o o', (h2 ++ [o] ++ [o'])[kc]? = some (.dict (dOf c kk)) := fun o o' => by rw [List.getElem?_append_left (by simp; (first | lia | omega))]; exact e3 o
  refine ⟨by (first | lia | omega), ?_⟩
  simp only [tl_law_server_right_2, wpSs,↓xB,↓xD,↓xG,↓vA,↓vB,↓vC,↓vD,↓vE,↓vF,↓vH,↓vK,↓vL,↓vM,↓vO,↓vP,↓vQ,↓vS,↓wF,↓wG,wpEs,wpOr,wpAnd,↓tA,↓tB,↓tD,↓tE,↓yA,↓yB,wpIt,wpBin,cmpV,eqO,eqV,inV,seqOf,wpIdx,wpSlc,wpBytes,wpLen,wpIndex,wpSetItem,wpSetAttr,wpAttr,initOf,methN,posOf,sizesL,kindsL,frees,putF,getN,zA,zB,zC,zD,zE,zF,zG,qA,qB,qC,qD,qE,qF,reduceCtorEq,↓reduceIte,qG,zH,zI,zJ,zK,zL,zM,zN,qH,qI,zO,zP,zQ,zR,qJ,zS,zT,Nat.reduceAdd,Nat.reduceLT,Int.reduceLT,Int.reduceLE,Int.reduceNeg,Int.reduceSub,Int.reduceMul,Int.reduceAdd,Int.reduceToNat,qO,qP,zU,zV,zW,zX,zY,zZ,aR1,aR2,aW1,aW2,aW3,aW4,aW5,aW6,aW7,aW8,aW9,aWa,aWb,qK,qL,qM,qN,ggA,ssA,ggB,ssB,ggC,ssC,ggD,ssD,ggE,ssE,ggF,ssF,ggG,ssG,ggH,ssH,ggI,ssI,ggJ,ssJ,ggK,ssK,rawF_len, e2, er, e3, er3, dg_ver, dg_known, dg_dcid, dg_first, dg_scid, dg_token, dg_now, dg_born, dg_life, dg_led, dg_done, eqVs]
  show wpSs _ _ _ _ _
  simp only [tl_law_server_right_3, wpSs,↓xB,↓xD,↓xG,↓vA,↓vB,↓vC,↓vD,↓vE,↓vF,↓vH,↓vK,↓vL,↓vM,↓vO,↓vP,↓vQ,↓vS,↓wF,↓wG,wpEs,wpOr,wpAnd,↓tA,↓tB,↓tD,↓tE,↓yA,↓yB,wpIt,wpBin,cmpV,eqO,eqV,inV,seqOf,wpIdx,wpSlc,wpBytes,wpLen,wpIndex,wpSetItem,wpSetAttr,wpAttr,initOf,methN,posOf,sizesL,kindsL,frees,putF,getN,zA,zB,zC,zD,zE,zF,zG,qA,qB,qC,qD,qE,qF,reduceCtorEq,↓reduceIte,qG,zH,zI,zJ,zK,zL,zM,zN,qH,qI,zO,zP,zQ,zR,qJ,zS,zT,Nat.reduceAdd,Nat.reduceLT,Int.reduceLT,Int.reduceLE,Int.reduceNeg,Int.reduceSub,Int.reduceMul,Int.reduceAdd,Int.reduceToNat,qO,qP,zU,zV,zW,zX,zY,zZ,aR1,aR2,aW1,aW2,aW3,aW4,aW5,aW6,aW7,aW8,aW9,aWa,aWb,qK,qL,qM,qN,ggA,ssA,ggB,ssB,ggC,ssC,ggD,ssD,ggE,ssE,ggF,ssF,ggG,ssG,ggH,ssH,ggI,ssI,ggJ,ssJ,ggK,ssK,rawF_len]
  refine c_wants bs tb (r2.fr (S := []) (((Fr.app _ _).trans (Fr.app _ _)).trans (Fr.app _ _)) (by simp)) (get_last _ _) (by first | exact mm hm | exact m1 hm | decide | (first | lia | omega)) ?_
  simp only [wpSs,↓xB,↓xD,↓xG,↓vA,↓vB,↓vC,↓vD,↓vE,↓vF,↓vH,↓vK,↓vL,↓vM,↓vO,↓vP,↓vQ,↓vS,↓wF,↓wG,wpEs,wpOr,wpAnd,↓tA,↓tB,↓tD,↓tE,↓yA,↓yB,wpIt,wpBin,cmpV,eqO,eqV,inV,seqOf,wpIdx,wpSlc,wpBytes,wpLen,wpIndex,wpSetItem,wpSetAttr,wpAttr,initOf,methN,posOf,sizesL,kindsL,frees,putF,getN,zA,zB,zC,zD,zE,zF,zG,qA,qB,qC,qD,qE,qF,reduceCtorEq,↓reduceIte,qG,zH,zI,zJ,zK,zL,zM,zN,qH,qI,zO,zP,zQ,zR,qJ,zS,zT,Nat.reduceAdd,Nat.reduceLT,Int.reduceLT,Int.reduceLE,Int.reduceNeg,Int.reduceSub,Int.reduceMul,Int.reduceAdd,Int.reduceToNat,qO,qP,zU,zV,zW,zX,zY,zZ,aR1,aR2,aW1,aW2,aW3,aW4,aW5,aW6,aW7,aW8,aW9,aWa,aWb,qK,qL,qM,qN,ggA,ssA,ggB,ssB,ggC,ssC,ggD,ssD,ggE,ssE,ggF,ssF,ggG,ssG,ggH,ssH,ggI,ssI,ggJ,ssJ,ggK,ssK,rawF_len]
  refine (iteA (fun hh => absurd hh (by rw [Bool.and_false, Bool.and_false]; decide)) (fun _ => ?_))
  refine c_wants bs tb (r2.fr (S := []) ((((Fr.app _ _).trans (Fr.app _ _)).trans (Fr.app _ _)).trans (Fr.app _ _)) (by simp)) (get_last _ _) (by first | exact mm hm | exact m1 hm | decide | (first | lia | omega)) ?_
  have d2 : (decide (kdOf c = .unknown) && (decide ((c.ver : Int) ≠ 1) && true)) = !decide ((c.ver : Int) = 1) := by
    by_cases hv : c.ver = 1
    · simp [hv]
    · simp [hv, kdOf]
  have ca5 := ca2.fr (S := []) ((((Fr.app _ [O.tup [V.bytes c.dcid, V.bytes own, V.int ↑c.ver]]).trans (Fr.app _ [O.tup [V.bytes c.dcid, V.bytes own, V.int ↑c.ver]])).trans (Fr.app _ [O.list [.int 1]])).trans (Fr.app _ [O.list [.int 1]])) (by simp) (by simp)
  have r5 := r2.fr (S := []) ((((Fr.app _ [O.tup [V.bytes c.dcid, V.bytes own, V.int ↑c.ver]]).trans (Fr.app _ [O.tup [V.bytes c.dcid, V.bytes own, V.int ↑c.ver]])).trans (Fr.app _ [O.list [.int 1]])).trans (Fr.app _ [O.list [.int 1]])) (by simp)
  have f5 := f2.trans (((((Fr.app _ [O.tup [V.bytes c.dcid, V.bytes own, V.int ↑c.ver]]).trans (Fr.app _ [O.tup [V.bytes c.dcid, V.bytes own, V.int ↑c.ver]])).trans (Fr.app _ [O.list [.int 1]])).trans (Fr.app _ [O.list [.int 1]])))
  simp only [d2, ca5.1, wpSs,↓xB,↓xD,↓xG,↓vA,↓vB,↓vC,↓vD,↓vE,↓vF,↓vH,↓vK,↓vL,↓vM,↓vO,↓vP,↓vQ,↓vS,↓wF,↓wG,wpEs,wpOr,wpAnd,↓tA,↓tB,↓tD,↓tE,↓yA,↓yB,wpIt,wpBin,cmpV,eqO,eqV,inV,seqOf,wpIdx,wpSlc,wpBytes,wpLen,wpIndex,wpSetItem,wpSetAttr,wpAttr,initOf,methN,posOf,sizesL,kindsL,frees,putF,getN,zA,zB,zC,zD,zE,zF,zG,qA,qB,qC,qD,qE,qF,reduceCtorEq,↓reduceIte,qG,zH,zI,zJ,zK,zL,zM,zN,qH,qI,zO,zP,zQ,zR,qJ,zS,zT,Nat.reduceAdd,Nat.reduceLT,Int.reduceLT,Int.reduceLE,Int.reduceNeg,Int.reduceSub,Int.reduceMul,Int.reduceAdd,Int.reduceToNat,qO,qP,zU,zV,zW,zX,zY,zZ,aR1,aR2,aW1,aW2,aW3,aW4,aW5,aW6,aW7,aW8,aW9,aWa,aWb,qK,qL,qM,qN,ggA,ssA,ggB,ssB,ggC,ssC,ggD,ssD,ggE,ssE,ggF,ssF,ggG,ssG,ggH,ssH,ggI,ssI,ggJ,ssJ,ggK,ssK,rawF_len, dg_ver, dg_known, dg_dcid, dg_first, dg_scid, dg_token, dg_now, dg_born, dg_life, dg_led, dg_done]
  simp only [tl_law_server_right_4, wpSs,↓xB,↓xD,↓xG,↓vA,↓vB,↓vC,↓vD,↓vE,↓vF,↓vH,↓vK,↓vL,↓vM,↓vO,↓vP,↓vQ,↓vS,↓wF,↓wG,wpEs,wpOr,wpAnd,↓tA,↓tB,↓tD,↓tE,↓yA,↓yB,wpIt,wpBin,cmpV,eqO,eqV,inV,seqOf,wpIdx,wpSlc,wpBytes,wpLen,wpIndex,wpSetItem,wpSetAttr,wpAttr,initOf,methN,posOf,sizesL,kindsL,frees,putF,getN,zA,zB,zC,zD,zE,zF,zG,qA,qB,qC,qD,qE,qF,reduceCtorEq,↓reduceIte,qG,zH,zI,zJ,zK,zL,zM,zN,qH,qI,zO,zP,zQ,zR,qJ,zS,zT,Nat.reduceAdd,Nat.reduceLT,Int.reduceLT,Int.reduceLE,Int.reduceNeg,Int.reduceSub,Int.reduceMul,Int.reduceAdd,Int.reduceToNat,qO,qP,zU,zV,zW,zX,zY,zZ,aR1,aR2,aW1,aW2,aW3,aW4,aW5,aW6,aW7,aW8,aW9,aWa,aWb,qK,qL,qM,qN,ggA,ssA,ggB,ssB,ggC,ssC,ggD,ssD,ggE,ssE,ggF,ssF,ggG,ssG,ggH,ssH,ggI,ssI,ggJ,ssJ,ggK,ssK,rawF_len, ca5.1, dg_ver, dg_known, dg_dcid, dg_first, dg_scid, dg_token, dg_now, dg_born, dg_life, dg_led, dg_done]
  refine (iteA (fun _ => q _ f5) (fun hh => ?_))
  have hv : c.ver = 1 := by
    have := of_decide_eq_true (by simpa using hh : decide ((c.ver : Int) = 1) = true)
    (first | lia | omega)
  exact c_server_right2 bs tb ca5 ci hv r5 (by first | exact mm hm | exact m1 hm | decide | (first | lia | omega)) fun h' fr => q _ (f5.trans fr)
end
end Mine
end
section
set_option maxRecDepth 100000
set_option maxHeartbeats 2000000
set_option backward.match.sparseCases false
set_option linter.all false
namespace Mine
open PySem PySem.W
structure St (h : H) (kr kl kc kk : Nat) (c : CS) : Prop where
  rows : Rows h kr kl
  ca : CAt h kc kk c
  n1 : kc ≠ kr
  n2 : kc ≠ kl
  n3 : kk ≠ kr
  n4 : kk ≠ kl
  n5 : kc ≠ kk
theorem Rows.fr {S : List Nat} {h h' : H} {kr kl : Nat} (x : Rows h kr kl) (fr : Fr S h h') (h1 : kr ∉ S) (h2 : kl ∉ S) : Rows h' kr kl := by
  refine hide fun gp gg => ?_; obtain ⟨ns, cc, a, b, e⟩ := x; refine gg ?_; clear gg gp
  exact ⟨ns, cc, fr.2 _ _ a h1, fr.2 _ _ b h2, e⟩
theorem St.fr {h h' : H} {kr kl kc kk : Nat} {c : CS} (x : St h kr kl kc kk c) (fr : Fr [] h h') : St h' kr kl kc kk c := ⟨x.rows.fr fr (by simp) (by simp), x.ca.fr fr (by simp) (by simp), x.n1, x.n2, x.n3, x.n4, x.n5⟩
theorem St.take {h h' : H} {kr kl kc kk : Nat} {c : CS} (x : St h kr kl kc kk c) (fr : Fr [kr, kl] h h') (r : Rows h' kr kl) : St h' kr kl kc kk c :=
  ⟨r, x.ca.fr fr (by have := x.n1; have := x.n2; simp_all) (by have := x.n3; have := x.n4; simp_all), x.n1, x.n2, x.n3, x.n4, x.n5⟩
theorem St.set {h : H} {kr kl kc kk : Nat} {c : CS} (x : St h kr kl kc kk c) (c' : CS) (hk : c'.known = c.known) : St (h.set kc (.dict (dOf c' kk))) kr kl kc kk c' := by
  refine hide fun gp gg => ?_; obtain ⟨⟨ns, cc, a, b, e⟩, ⟨d1, d2⟩, n1, n2, n3, n4, n5⟩ := x; refine gg ?_; clear gg gp
  refine ⟨⟨ns, cc, ?_, ?_, e⟩, ⟨get_set (lt_of d1), ?_⟩, n1, n2, n3, n4, n5⟩
  · rw [List.getElem?_set_ne n1]; exact a
  · rw [List.getElem?_set_ne n2]; exact b
  · rw [List.getElem?_set_ne n5, hk]; exact d2
noncomputable def tlv_b : Ss := (.cons (.asg (.one (.loc 10)) (.call 366 (.cons (.loc 9) (.cons (.idx (.loc 1) (.str .version)) (.cons (.idx (.loc 1) (.str .dcid)) (.cons (.idx (.loc 1) (.str .scid)) (.cons (.idx (.loc 1) (.str .known)) (.cons (.idx (.loc 1) (.str .is_led)) .nil)))))))) tl_law_versions_5)
noncomputable def tlv_a : Ss := (.cons (.asg (.one (.loc 4)) (.call 359 (.cons (.call 242 (.cons (.call 471 (.cons (.loc 1) .nil)) (.cons (.int 0) .nil))) (.cons (.call 457 (.cons (.loc 0) (.cons (.int 128) .nil))) (.cons (.loc 3) .nil))))) (.cons (.asg (.tup [(.loc 5), (.loc 6), (.loc 7), (.loc 8)]) (.call 450 (.cons (.call 242 (.cons (.loc 4) (.cons (.int 0) .nil))) .nil))) (.cons (.asg (.one (.loc 9)) (.tup (.cons (.loc 5) (.cons (.loc 6) (.cons (.ite (.cmp .Eq (.loc 2) (.int 1)) (.call 464 (.cons (.loc 7) .nil)) (.loc 7)) (.cons (.loc 8) .nil)))))) tlv_b)))
noncomputable def tlv_c : Ss := (.cons (.asg (.one (.sub (.loc 1) (.str .is_done))) (.cmp .Eq (.loc 11) (.lst .nil))) (.cons (.asg (.one (.sub (.loc 1) (.str .version))) (.ite (.cmp .Eq (.loc 11) (.lst .nil)) (.idx (.loc 1) (.str .version)) (.idx (.loc 11) (.int 0)))) (.cons (.ret (.cmp .Eq (.loc 10) (.ite (.cmp .NotEq (.loc 11) (.lst .nil)) (.tup (.cons (.str .use) (.cons (.idx (.loc 11) (.int 0)) .nil))) (.tup (.cons (.str .give_up) (.cons .none .nil)))))) .nil)))
theorem b_lv2 : tl_law_versions_5 = (.cons (.ite (.or (.cons (.idx (.loc 1) (.str .is_led)) (.cons (.cmp .Gt (.loc 2) (.int 0)) (.cons (.cmp .In (.idx (.loc 1) (.str .version)) (.loc 3)) .nil)))) (.cons (.ret (.cmp .Eq (.loc 10) (.tup (.cons (.str .ignore) (.cons .none .nil))))) .nil) .nil) (.cons (.asg (.one (.loc 11)) (.compIf [3] (.loc 0) (.idx (.loc 1) (.str .known)) (.cmp .In (.loc 0) (.loc 1)))) tlv_c)) := rfl
noncomputable abbrev nts (vs : List Nat) : List V := vs.map fun (n : Nat) => .int n
theorem ga {h g : H} {k : Nat} (hk : k < h.length) : (h ++ g)[k]? = h[k]? := List.getElem?_append_left hk
theorem gsn {h : H} {k i : Nat} {o : O} (n : ¬ (k = i)) : (h.set i o)[k]? = h[k]? := List.getElem?_set_ne (fun h => n h.symm)
theorem gss {h : H} {i : Nat} {o : O} (hk : i < h.length) : (h.set i o)[i]? = some o := get_set hk
theorem gla {h g : H} {k : Nat} (hk : k < h.length) : k < (h ++ g).length := by rw [List.length_append]; (first | lia | omega)
theorem gls {h : H} {k i : Nat} {o : O} (hk : k < h.length) : k < (h.set i o).length := by rw [List.length_set]; exact hk
theorem dOf_len (c : CS) (kk : Nat) : (dOf c kk).length = 11 := rfl
noncomputable def zs (vs : List Nat) : List Int := vs.map Int.ofNat
theorem nts_zs (vs : List Nat) : nts vs = (zs vs).map .int := by unfold zs; rw [List.map_map]; rfl
theorem mem_zs {vs : List Nat} {n : Nat} : (n : Int) ∈ zs vs ↔ n ∈ vs := by
  unfold zs
  rw [List.mem_map]
  exact ⟨fun ⟨a, b, e⟩ => by cases e; exact b, fun b => ⟨n, b, rfl⟩⟩
theorem b_lv : b_law_versions = (.cons (.asg (.one (.loc 3)) (.bin .Add (.lst (.cons (.bin .Add (.int 3) (.call 457 (.cons (.loc 0) (.cons (.int 3) .nil)))) (.cons (.int 1) .nil))) (.ite (.cmp .Eq (.loc 2) (.int 2)) (.lst (.cons (.idx (.loc 1) (.str .version)) .nil)) (.lst .nil)))) tlv_a) := rfl
theorem some_last {d : List UInt8} (h : d ≠ []) : ∃ p u, d = p ++ [u] := ⟨d.dropLast, d.getLast h, (List.dropLast_concat_getLast h).symm⟩
theorem other_ne (p : List UInt8) (u : UInt8) : p ++ [(255 - u.toNat).toUInt8] ≠ p ++ [u] := fun h => by
  have h2 := List.append_cancel_left h
  injection h2 with h3 _
  have := congrArg UInt8.toNat h3
  rw [toU8] at this
  have := u.toNat_lt
  (first | lia | omega)
section
variable {w : World} {B : Heap}
theorem lv_c (bs : Base w B) (tb : Tabs B) {c : CS} {kr kl kc kk kt kw form m : Nat} {o3 o4 o5 o6 o7 o8 o9 : Option V} {W : List Int} {T : List V} {h : H} {Q : K1} (st : St h kr kl kc kk c) (ci : CInv c) (hm : 10 ≤ m)
    (et : h[kt]? = some (.tup T)) (ew : h[kw]? = some (.list (W.map .int))) (hT : T = match W with | x :: _ => [.str .use, .int x] | [] => [.str .give_up, .none]) (hW : ∀ x ∈ W, 1 ≤ x ∧ x ≤ 4)
    (q : ∀ h' c', Fr [kr, kl, kc] h h' → St h' kr kl kc kk c' → CInv c' → c'.now = c.now → Q (.bool true) h') :
    wpSs (G w B m) tlv_c [some (.obj kr), some (.obj kc), some (.int form), o3, o4, o5, o6, o7, o8, o9, some (.obj kt), some (.obj kw)] h fun fl _ h' => match fl with | .ret v => Q v h' | .next => Q .none h' | .brk => False := by
  have e := st.ca.1
  have hk := lt_of e
  have n1 : kt ≠ kc := by rintro rfl; rw [e] at et; cases et
  have n2 : kw ≠ kc := by rintro rfl; rw [e] at ew; cases ew
  have hk2 := lt_of et
  have hk3 := lt_of ew
  have d1 : decide ((0 : Nat) = 0) = true := rfl
  cases W with
  | nil =>
    rw [hT] at et
    simp (maxDischargeDepth := 30) only [tlv_c, wpSs,↓xB,↓xD,↓xG,↓xH,↓vA,↓vB,↓vC,↓vD,↓vF,↓vM,↓vO,↓vP,↓vQ,↓wG,wpEs,wpOr,wpAnd,↓tA,↓tB,↓tD,↓tF,↓yA,↓yB,wpIt,wpBin,cmpV,eqO,eqV,inV,seqOf,wpIdx,wpSlc,wpBytes,wpLen,wpIndex,wpSetItem,wpSetAttr,wpAttr,initOf,methN,posOf,sizesL,kindsL,frees,putF,getN,zA,zB,zC,zD,zE,zF,zG,qA,qB,qC,qD,qE,qF,reduceCtorEq,↓reduceIte,qG,zH,zI,zJ,zK,zL,zM,zN,qH,qI,zO,zP,zQ,zR,qJ,zS,zT,Nat.reduceAdd,Nat.reduceLT,Int.reduceLT,Int.reduceLE,Int.reduceNeg,Int.reduceSub,Int.reduceMul,Int.reduceAdd,Int.reduceToNat,qO,qP,zU,zV,zW,zX,zY,zZ,aR1,aR2,aW1,aW2,aW3,aW4,aW5,aW6,aW7,aW8,aW9,aWa,aWb,qK,qL,qM,qN,ggA,ssA,ggB,ssB,ggC,ssC,ggD,ssD,ggE,ssE,ggF,ssF,ggG,ssG,ggH,ssH,ggI,ssI,ggJ,ssJ,ggK,ssK,rawF_len, e, et, ew, dg_ver, dg_known, dg_dcid, dg_first, dg_scid, dg_token, dg_now, dg_born, dg_life, dg_led, dg_done, ga, gsn, gss, gla, gls, n1, n2, hk, hk2, hk3, not_false_eq_true, ds_done, ds_ver, dOf_len, List.map_nil, List.length_nil, decide_true, Option.map_some, Bool.not_true, false_implies, eqVs, eqV]
    refine q _ { c with done := true } ?_ (((((st.fr (Fr.app _ _)).set { c with done := true } rfl).fr (Fr.app _ _)).set { c with done := true } rfl).fr ((Fr.app _ _).trans (Fr.app _ _))) ⟨ci.ver, ci.known, ci.first, ci.dl, ci.dcid, ci.token, ci.time⟩ rfl
    exact ((((((Fr.app _ _).setIn (by simp) _).push _).setIn (by simp) _).push _).push _)
  | cons y W =>
    rw [hT] at et
    have hy := hW y (by simp)
    obtain ⟨y, rfl⟩ := Int.eq_ofNat_of_zero_le (show 0 ≤ y by (first | lia | omega))
    have d2 : decide ((W.map V.int).length + 1 = 0) = false := decide_eq_false (by first | exact mm hm | exact m1 hm | decide | (first | lia | omega))
    simp (maxDischargeDepth := 30) only [tlv_c, wpSs,↓xB,↓xD,↓xG,↓xH,↓vA,↓vB,↓vC,↓vD,↓vF,↓vM,↓vO,↓vP,↓vQ,↓wG,wpEs,wpOr,wpAnd,↓tA,↓tB,↓tD,↓tF,↓yA,↓yB,wpIt,wpBin,cmpV,eqO,eqV,inV,seqOf,wpIdx,wpSlc,wpBytes,wpLen,wpIndex,wpSetItem,wpSetAttr,wpAttr,initOf,methN,posOf,sizesL,kindsL,frees,putF,getN,zA,zB,zC,zD,zE,zF,zG,qA,qB,qC,qD,qE,qF,reduceCtorEq,↓reduceIte,qG,zH,zI,zJ,zK,zL,zM,zN,qH,qI,zO,zP,zQ,zR,qJ,zS,zT,Nat.reduceAdd,Nat.reduceLT,Int.reduceLT,Int.reduceLE,Int.reduceNeg,Int.reduceSub,Int.reduceMul,Int.reduceAdd,Int.reduceToNat,qO,qP,zU,zV,zW,zX,zY,zZ,aR1,aR2,aW1,aW2,aW3,aW4,aW5,aW6,aW7,aW8,aW9,aWa,aWb,qK,qL,qM,qN,ggA,ssA,ggB,ssB,ggC,ssC,ggD,ssD,ggE,ssE,ggF,ssF,ggG,ssG,ggH,ssH,ggI,ssI,ggJ,ssJ,ggK,ssK,rawF_len, e, et, ew, dg_ver, dg_known, dg_dcid, dg_first, dg_scid, dg_token, dg_now, dg_born, dg_life, dg_led, dg_done, ga, gsn, gss, gla, gls, n1, n2, hk, hk2, hk3, not_false_eq_true, ds_done, ds_ver, dOf_len, List.map_cons, List.length_cons, d2, Option.map_some, Bool.not_true, false_implies, eqVs, eqV]
    refine ⟨by (first | lia | omega), by (first | lia | omega), q _ { c with ver := y, done := false } ?_ (((((st.fr (Fr.app _ _)).set { c with done := false } rfl).fr (Fr.app _ _)).set { c with ver := y, done := false } rfl).fr ((Fr.app _ _).trans (Fr.app _ _))) ⟨(show 1 ≤ y ∧ y ≤ 4 by (first | lia | omega)), ci.known, ci.first, ci.dl, ci.dcid, ci.token, ci.time⟩ rfl⟩
    exact ((((((Fr.app _ _).setIn (by simp) _).push _).setIn (by simp) _).push _).push _)
theorem lv_b (bs : Base w B) (tb : Tabs B) {c : CS} {kr kl kc kk ko kv kp form m : Nat} {o4 o5 o6 o7 o8 : Option V} {s' : List UInt8} {vs : List Nat} {h : H} {Q : K1} (st : St h kr kl kc kk c) (ci : CInv c) (hf : form < 3) (hm : 10 ≤ m)
    (hs : s' = c.dcid ↔ form ≠ 1) (ep : h[kp]? = some (.tup [.str .negotiation, .bytes own, .bytes s', .obj kv])) (ev : h[kv]? = some (.list (nts vs))) (eo : h[ko]? = some (.list (nts vs))) (h0 : form = 2 → c.ver ∈ vs)
    (q : ∀ h' c', Fr [kr, kl, kc] h h' → St h' kr kl kc kk c' → CInv c' → c'.now = c.now → Q (.bool true) h') :
    wpSs (G w B m) tlv_b [some (.obj kr), some (.obj kc), some (.int form), some (.obj ko), o4, o5, o6, o7, o8, some (.obj kp), none, none] h fun fl _ h' => match fl with | .ret v => Q v h' | .next => Q .none h' | .brk => False := by
  have e1 := st.ca.1
  simp only [tlv_b, wpSs,↓xB,↓xD,↓xG,↓xH,↓vA,↓vB,↓vC,↓vD,↓vE,↓vF,↓vH,↓vL,↓vM,↓vO,↓vP,↓vQ,↓vS,↓wG,↓wL,wpEs,wpOr,wpAnd,↓tA,↓tB,↓tD,↓tF,↓yA,↓yB,wpIt,wpBin,cmpV,eqO,eqV,inV,seqOf,wpIdx,wpSlc,wpBytes,wpLen,wpIndex,wpSetItem,wpSetAttr,wpAttr,initOf,methN,posOf,sizesL,kindsL,frees,putF,getN,zA,zB,zC,zD,zE,zF,zG,qA,qB,qC,qD,qE,qF,reduceCtorEq,↓reduceIte,qG,zH,zI,zJ,zK,zL,zM,zN,qH,qI,zO,zP,zQ,zR,qJ,zS,zT,Nat.reduceAdd,Nat.reduceLT,Int.reduceLT,Int.reduceLE,Int.reduceNeg,Int.reduceSub,Int.reduceMul,Int.reduceAdd,Int.reduceToNat,qO,qP,zU,zV,zW,zX,zY,zZ,aR1,aR2,aW1,aW2,aW3,aW4,aW5,aW6,aW7,aW8,aW9,aWa,aWb,qK,qL,qM,qN,ggA,ssA,ggB,ssB,ggC,ssC,ggD,ssD,ggE,ssE,ggF,ssF,ggG,ssG,ggH,ssH,ggI,ssI,ggJ,ssJ,ggK,ssK,rawF_len, e1, dg_ver, dg_known, dg_dcid, dg_first, dg_scid, dg_token, dg_now, dg_born, dg_life, dg_led, dg_done]
  rw [nts_zs] at ev eo
  refine c_chosen bs tb ep ev st.ca.2 (by first | exact mm hm | exact m1 hm | decide | (first | lia | omega)) fun h1 kt fr1 et => ?_
  have st1 := st.fr fr1
  have e2 := st1.ca.1
  have e3 := st1.ca.2
  have eo2 := fr1.2 _ _ eo (by simp)
  have e4 : ∀ o, (h1 ++ [o])[kc]? = some (.dict (dOf c kk)) := fun o => by rw [List.getElem?_append_left (lt_of e2)]; exact e2
  have hor : (c.led = true ∨ 0 < form ∨ c.ver ∈ vs) → chosenR (c.led || (decide (own ≠ own) || (decide (s' ≠ c.dcid) || decide ((c.ver : Int) ∈ zs vs)))) c.known (zs vs) = [.str .ignore, .none] := fun hh => by
    have : (c.led || (decide (own ≠ own) || (decide (s' ≠ c.dcid) || decide ((c.ver : Int) ∈ zs vs)))) = true := by
      simp only [Bool.or_eq_true, decide_eq_true_eq, mem_zs]
      rcases hh with hh | hh | hh
      · exact .inl hh
      · by_cases h1 : form = 1
        · exact .inr (.inr (.inl fun h2 => (hs.mp h2) h1))
        · exact .inr (.inr (.inr (h0 (by first | exact mm hm | exact m1 hm | decide | (first | lia | omega)))))
      · exact .inr (.inr (.inr hh))
    rw [this]; rfl
  have hno : ¬ (c.led = true ∨ 0 < form ∨ c.ver ∈ vs) → (c.led || (decide (own ≠ own) || (decide (s' ≠ c.dcid) || decide ((c.ver : Int) ∈ zs vs)))) = false := fun hh => by
    rw [not_or, not_or] at hh
    have h2 : s' = c.dcid := hs.mpr (by first | exact mm hm | exact m1 hm | decide | (first | lia | omega))
    have h3 : ¬ ((c.ver : Int) ∈ zs vs) := fun h => hh.2.2 (mem_zs.mp h)
    simp [h2, h3, hh.1]
  generalize (c.led || (decide (own ≠ own) || (decide (s' ≠ c.dcid) || decide ((c.ver : Int) ∈ zs vs)))) = ign at et hor hno
  have e5 : ∀ o, (h1 ++ [o])[kt]? = some (O.tup (chosenR ign c.known (zs vs))) := fun o => by rw [List.getElem?_append_left (lt_of et)]; exact et
  simp only [b_lv2, wpSs,↓xB,↓xD,↓xG,↓xH,↓vA,↓vB,↓vC,↓vD,↓vE,↓vF,↓vH,↓vL,↓vM,↓vO,↓vP,↓vQ,↓vS,↓wG,↓wL,wpEs,wpOr,wpAnd,↓tA,↓tB,↓tD,↓tF,↓yA,↓yB,wpIt,wpBin,cmpV,eqO,eqV,inV,seqOf,wpIdx,wpSlc,wpBytes,wpLen,wpIndex,wpSetItem,wpSetAttr,wpAttr,initOf,methN,posOf,sizesL,kindsL,frees,putF,getN,zA,zB,zC,zD,zE,zF,zG,qA,qB,qC,qD,qE,qF,reduceCtorEq,↓reduceIte,qG,zH,zI,zJ,zK,zL,zM,zN,qH,qI,zO,zP,zQ,zR,qJ,zS,zT,Nat.reduceAdd,Nat.reduceLT,Int.reduceLT,Int.reduceLE,Int.reduceNeg,Int.reduceSub,Int.reduceMul,Int.reduceAdd,Int.reduceToNat,qO,qP,zU,zV,zW,zX,zY,zZ,aR1,aR2,aW1,aW2,aW3,aW4,aW5,aW6,aW7,aW8,aW9,aWa,aWb,qK,qL,qM,qN,ggA,ssA,ggB,ssB,ggC,ssC,ggD,ssD,ggE,ssE,ggF,ssF,ggG,ssG,ggH,ssH,ggI,ssI,ggJ,ssJ,ggK,ssK,rawF_len, e2, e3, e4, e5, et, eo2, dg_ver, dg_known, dg_dcid, dg_first, dg_scid, dg_token, dg_now, dg_born, dg_life, dg_led, dg_done, allInt_map, contains_map]
  have qi : (c.led = true ∨ 0 < form ∨ c.ver ∈ vs) → (match eqVs (chosenR ign c.known (zs vs)) [V.str N.ignore, V.none] with
      | some r => Q (V.bool r) (h1 ++ [O.tup [V.str N.ignore, V.none]])
      | none => False) := fun hh => by
    rw [hor hh]
    exact q _ c ((fr1.push _).mono (by simp)) (st1.fr (Fr.app _ _)) ci rfl
  refine (iteA (fun h1 => qi (.inl h1)) (fun h1 => (iteA (fun h2 => qi (.inr (.inl (by have := of_decide_eq_true h2; (first | lia | omega))))) (fun h2 => (iteA (fun h3 => qi (.inr (.inr (mem_zs.mp (of_decide_eq_true h3))))) (fun h3 => ?_))))))
  have hg := hno (by rintro (hh | hh | hh); · rw [h1] at hh; cases hh
                     · have := of_decide_eq_false h2; (first | lia | omega)
                     · exact of_decide_eq_false h3 (mem_zs.mpr hh))
  refine ⟨id, fun v => match v with | .int a => decide (a ∈ zs vs) | _ => false, ⟨by have := ci.known.1; simp; (first | lia | omega), fun v hv => ?_⟩, ?_⟩
  · refine hide fun gp gg => ?_; obtain ⟨a, ha, rfl⟩ := List.mem_map.mp hv; refine gg ?_; clear gg gp
    simp only [Option.join_some, eo2, allInt_map, contains_map]
    rw [if_pos True.intro]
    exact ⟨⟨rfl, [], (List.append_nil _).symm⟩, fun _ => ⟨rfl, rfl, [], (List.append_nil _).symm⟩⟩
  · have ef : List.map id (List.filter (fun v => match v with | V.int a => decide (a ∈ zs vs) | _ => false) (List.map V.int c.known)) = (c.known.filter fun a => decide (a ∈ zs vs)).map .int := by
      rw [List.map_id, List.filter_map]; rfl
    rw [ef]
    refine lv_c bs tb (W := c.known.filter fun a => decide (a ∈ zs vs)) (st1.fr (Fr.app _ _)) ci hm (e5 _) (get_last _ _) ?_ (fun x hx => ci.known.2 x (List.mem_filter.mp hx).1) fun h' c' fr => q h' c' (((fr1.push _).mono (by simp)).trans fr)
    unfold chosenR
    rw [hg, ← List.head?_filter]
    cases c.known.filter fun a => decide (a ∈ zs vs) <;> rfl
theorem c_negotiation_answer (bs : Base w B) (tb : Tabs B) {d s : List UInt8} {a1 a2 a3 a6 a7 a8 a9 aa ab : V} {vs : List Nat} {low k ko m : Nat} {h : H} {Q : K1} (e : h[k]? = some (.inst .raw (rawF a1 a2 a3 (.bytes d) (.bytes s) a6 a7 a8 a9 aa ab))) (eo : h[ko]? = some (.list (nts vs)))
    (hv : ∀ v ∈ vs, v < 256) (h2 : 2 ≤ vs.length) (h3 : vs.length ≤ 100) (hd : d.length < 200) (hs : s.length < 200) (hm : 3 ≤ m) (q : ∀ h', Fr [] h h' → Q (.bytes (negData low s d vs)) h') : G w B m 359 [.obj k, .int low, .obj ko] h Q := by
  refine fn_go bs tb (f_negotiation_answer _) (by first | exact mm hm | exact m1 hm | decide | (first | lia | omega)) [some (.obj k), some (.int low), some (.obj ko)] rfl rfl ?_
  simp only [b_negotiation_answer, wpSs,↓xG,↓vC,↓vE,↓vF,↓vS,↓wF,wpEs,wpOr,wpAnd,↓tD,↓tE,wpIt,wpBin,cmpV,eqO,eqV,inV,seqOf,wpIdx,wpSlc,wpBytes,wpLen,wpIndex,wpSetItem,wpSetAttr,wpAttr,initOf,methN,posOf,sizesL,kindsL,frees,putF,getN,zA,zB,zC,zD,zE,zF,zG,qA,qB,qC,qD,qE,qF,reduceCtorEq,↓reduceIte,qG,zH,zI,zJ,zK,zL,zM,zN,qH,qI,zO,zP,zQ,zR,qJ,zS,zT,Nat.reduceAdd,Nat.reduceLT,Int.reduceLT,Int.reduceLE,Int.reduceNeg,Int.reduceSub,Int.reduceMul,Int.reduceAdd,Int.reduceToNat,qO,qP,zU,zV,zW,zX,zY,zZ,aR1,aR2,aW1,aW2,aW3,aW4,aW5,aW6,aW7,aW8,aW9,aWa,aWb,qK,qL,qM,qN,ggA,ssA,ggB,ssB,ggC,ssC,ggD,ssD,ggE,ssE,ggF,ssF,ggG,ssG,ggH,ssH,ggI,ssI,ggJ,ssJ,ggK,ssK,rawF_len, e]
  exact c_put_negotiation bs tb eo (fun v hh => by have := hv v hh; (first | lia | omega)) h2 h3 hs hd (by first | exact mm hm | exact m1 hm | decide | (first | lia | omega)) fun h' fr => q h' fr
theorem lv_a (bs : Base w B) (tb : Tabs B) {c : CS} {kr kl kc kk ko form m : Nat} {vs : List Nat} {h : H} {Q : K1} (st : St h kr kl kc kk c) (ci : CInv c) (hf : form < 3) (hm : 10 ≤ m)
    (eo : h[ko]? = some (.list (nts vs))) (h0 : form = 2 → c.ver ∈ vs) (hb : ∀ v ∈ vs, v < 256) (hx2 : 2 ≤ vs.length) (hx3 : vs.length ≤ 3) (n1 : ko ≠ kr) (n2 : ko ≠ kl)
    (q : ∀ h' c', Fr [kr, kl, kc] h h' → St h' kr kl kc kk c' → CInv c' → c'.now = c.now → Q (.bool true) h') :
    wpSs (G w B m) tlv_a [some (.obj kr), some (.obj kc), some (.int form), some (.obj ko), none, none, none, none, none, none, none, none] h fun fl _ h' => match fl with | .ret v => Q v h' | .next => Q .none h' | .brk => False := by
  simp only [tlv_a, wpSs,↓xB,↓xD,↓xG,↓xH,↓vA,↓vB,↓vC,↓vD,↓vE,↓vF,↓vH,↓vL,↓vM,↓vO,↓vP,↓vQ,↓vS,↓wG,↓wL,wpEs,wpOr,wpAnd,↓tA,↓tB,↓tD,↓tF,↓yA,↓yB,wpIt,wpBin,cmpV,eqO,eqV,inV,seqOf,wpIdx,wpSlc,wpBytes,wpLen,wpIndex,wpSetItem,wpSetAttr,wpAttr,initOf,methN,posOf,sizesL,kindsL,frees,putF,getN,zA,zB,zC,zD,zE,zF,zG,qA,qB,qC,qD,qE,qF,reduceCtorEq,↓reduceIte,qG,zH,zI,zJ,zK,zL,zM,zN,qH,qI,zO,zP,zQ,zR,qJ,zS,zT,Nat.reduceAdd,Nat.reduceLT,Int.reduceLT,Int.reduceLE,Int.reduceNeg,Int.reduceSub,Int.reduceMul,Int.reduceAdd,Int.reduceToNat,qO,qP,zU,zV,zW,zX,zY,zZ,aR1,aR2,aW1,aW2,aW3,aW4,aW5,aW6,aW7,aW8,aW9,aWa,aWb,qK,qL,qM,qN,ggA,ssA,ggB,ssB,ggC,ssC,ggD,ssD,ggE,ssE,ggF,ssF,ggG,ssG,ggH,ssH,ggI,ssI,ggJ,ssJ,ggK,ssK,rawF_len]
  refine c_law_first bs tb st.ca ci (by first | exact mm hm | exact m1 hm | decide | (first | lia | omega)) fun h1 D fr1 fo hD => ?_
  have st1 := st.fr fr1
  refine hide fun gp gg => ?_; obtain ⟨f, D', fv, rfl, hf2, rd⟩ := fo; refine gg ?_; clear gg gp
  refine rd _ _ _ (by first | exact mm hm | exact m1 hm | decide | (first | lia | omega)) fun h2 k fr2 r2 => ?_
  have st2 := st1.fr fr2
  refine hide fun gp gg => ?_; obtain ⟨vs', na, er⟩ := id r2; refine gg ?_; clear gg gp
  refine c_law_take bs tb st2.rows (many := 128) (by first | exact mm hm | exact m1 hm | decide | (first | lia | omega)) (by first | exact mm hm | exact m1 hm | decide | (first | lia | omega)) fun h3 low fr3 r3 hlow => ?_
  have st3 := st2.take fr3 r3
  have er3 := fr3.2 _ _ er
  have eo3 : h3[ko]? = some (.list (nts vs)) := fr3.2 _ _ (fr2.2 _ _ (fr1.2 _ _ eo (by simp)) (by simp)) (by simp_all)
  have hkr : k ∉ [kr, kl] := by
    refine hide fun gp gg => ?_; obtain ⟨ns, cc, a1, a2, _⟩ := st2.rows; refine gg ?_; clear gg gp
    simp only [List.mem_cons, List.not_mem_nil, or_false, not_or]
    exact ⟨fun hh => by rw [hh, a1] at er; (injection er with er; cases er), fun hh => by rw [hh, a2] at er; (injection er with er; cases er)⟩
  have er3 := er3 hkr
  have hdl := ci.dl.1
  refine c_negotiation_answer bs tb er3 eo3 hb hx2 (by first | exact mm hm | exact m1 hm | decide | (first | lia | omega)) (by first | exact mm hm | exact m1 hm | decide | (first | lia | omega)) (by decide) (by first | exact mm hm | exact m1 hm | decide | (first | lia | omega)) fun h4 fr4 => ?_
  have hne : vs ≠ [] := by rintro rfl; simp at hx2
  refine c_read_long_neg bs tb (f := (128 + low % 128).toUInt8) (v4 := beN 4 0) (d := own) (ld := 3) (ls := c.dcid.length.toUInt8) (s := c.dcid) (vs := vs.map (beN 4)) (beN_length _ _) rfl rfl (u8len (by first | exact mm hm | exact m1 hm | decide | (first | lia | omega))) (by simp [beN_length]) (by simpa using hne) (by simp; (first | lia | omega)) (by first | exact mm hm | exact m1 hm | decide | (first | lia | omega)) (by simp [negData, ids]) fun h5 k5 kv fr5 e5 ev5 => ?_
  refine c_bare_neg bs tb e5 (by first | exact mm hm | exact m1 hm | decide | (first | lia | omega)) fun h6 k6 fr6 e6 => ?_
  simp only [wpSs,↓xB,↓xD,↓xG,↓xH,↓vA,↓vB,↓vC,↓vD,↓vE,↓vF,↓vH,↓vL,↓vM,↓vO,↓vP,↓vQ,↓vS,↓wG,↓wL,wpEs,wpOr,wpAnd,↓tA,↓tB,↓tD,↓tF,↓yA,↓yB,wpIt,wpBin,cmpV,eqO,eqV,inV,seqOf,wpIdx,wpSlc,wpBytes,wpLen,wpIndex,wpSetItem,wpSetAttr,wpAttr,initOf,methN,posOf,sizesL,kindsL,frees,putF,getN,zA,zB,zC,zD,zE,zF,zG,qA,qB,qC,qD,qE,qF,reduceCtorEq,↓reduceIte,qG,zH,zI,zJ,zK,zL,zM,zN,qH,qI,zO,zP,zQ,zR,qJ,zS,zT,Nat.reduceAdd,Nat.reduceLT,Int.reduceLT,Int.reduceLE,Int.reduceNeg,Int.reduceSub,Int.reduceMul,Int.reduceAdd,Int.reduceToNat,qO,qP,zU,zV,zW,zX,zY,zZ,aR1,aR2,aW1,aW2,aW3,aW4,aW5,aW6,aW7,aW8,aW9,aWa,aWb,qK,qL,qM,qN,ggA,ssA,ggB,ssB,ggC,ssC,ggD,ssD,ggE,ssE,ggF,ssF,ggG,ssG,ggH,ssH,ggI,ssI,ggJ,ssJ,ggK,ssK,rawF_len, e6]
  have f46 := (fr4.trans fr5).trans fr6
  have st6 := st3.fr f46
  have ev6 := fr6.2 _ _ ev5 (by simp)
  have eo6 := f46.2 _ _ eo3 (by simp)
  have evs : ((vs.map (beN 4)).map fun v => V.int (ofBe v)) = nts vs := by
    rw [List.map_map]
    refine List.map_congr_left fun v hv => ?_
    have := hb v hv
    show V.int (ofBe (beN 4 v)) = V.int v
    rw [ofBe_beN 4 v (by first | exact mm hm | exact m1 hm | decide | (first | lia | omega))]
  rw [evs] at ev6
  have fA : Fr [kr, kl, kc] h h6 := (((fr1.trans fr2).mono (by simp)).trans (fr3.mono (by simp))).trans (f46.mono (by simp))
  refine (iteA (fun hh => ?_) (fun hh => ?_))
  · have h1 : form = 1 := by have := of_decide_eq_true hh; (first | lia | omega)
    refine hide fun gp gg => ?_; obtain ⟨p, u, hpu⟩ := some_last ci.dl.2; refine gg ?_; clear gg gp
    rw [hpu]
    have hpl : p.length + 1 ≤ 10 := by have := ci.dl.1; rw [hpu] at this; simpa using this
    refine c_other bs tb (by first | exact mm hm | exact m1 hm | decide | (first | lia | omega)) (by first | exact mm hm | exact m1 hm | decide | (first | lia | omega)) fun h7 fr7 => ?_
    have f7 := fr7.trans (Fr.app h7 [O.tup [V.str N.negotiation, V.bytes own, V.bytes (p ++ [(255 - u.toNat).toUInt8]), V.obj kv]])
    refine lv_b bs tb (s' := p ++ [(255 - u.toNat).toUInt8]) (vs := vs) (kv := kv) (st6.fr f7) ci hf hm ?_ (get_last _ _) (f7.2 _ _ ev6 (by simp)) (f7.2 _ _ eo6 (by simp)) h0 fun h' c' fr => q h' c' ((fA.trans (f7.mono (by simp))).trans fr)
    refine ⟨fun hh => ?_, fun hh => absurd h1 hh⟩
    rw [hpu] at hh
    exact absurd hh (other_ne p u)
  · have h1 : form ≠ 1 := by have := of_decide_eq_false hh; (first | lia | omega)
    have f7 : Fr [] h6 (h6 ++ [O.tup [V.str N.negotiation, V.bytes own, V.bytes c.dcid, V.obj kv]]) := Fr.app _ _
    exact lv_b bs tb (s' := c.dcid) (vs := vs) (kv := kv) (st6.fr f7) ci hf hm ⟨fun _ => h1, fun _ => rfl⟩ (get_last _ _) (f7.2 _ _ ev6 (by simp)) (f7.2 _ _ eo6 (by simp)) h0 fun h' c' fr => q h' c' ((fA.trans (f7.mono (by simp))).trans fr)
theorem c_law_versions (bs : Base w B) (tb : Tabs B) {c : CS} {kr kl kc kk form m : Nat} {h : H} {Q : K1} (st : St h kr kl kc kk c) (ci : CInv c) (hf : form < 3) (hm : 11 ≤ m)
    (q : ∀ h' c', Fr [kr, kl, kc] h h' → St h' kr kl kc kk c' → CInv c' → c'.now = c.now → Q (.bool true) h') : G w B m 476 [.obj kr, .obj kc, .int form] h Q := by
  refine fn_go bs tb (f_law_versions _) (by first | exact mm hm | exact m1 hm | decide | (first | lia | omega)) [some (.obj kr), some (.obj kc), some (.int form), none, none, none, none, none, none, none, none, none] rfl rfl ?_
  simp only [b_lv, wpSs,↓xB,↓xD,↓xG,↓vA,↓vB,↓vC,↓vD,↓vF,↓vH,↓vL,↓vM,↓vO,↓vP,↓vQ,↓vS,↓wG,↓wL,wpEs,wpOr,wpAnd,↓tA,↓tB,↓tD,↓tF,↓yA,↓yB,wpIt,wpBin,cmpV,eqO,eqV,inV,seqOf,wpIdx,wpSlc,wpBytes,wpLen,wpIndex,wpSetItem,wpSetAttr,wpAttr,initOf,methN,posOf,sizesL,kindsL,frees,putF,getN,zA,zB,zC,zD,zE,zF,zG,qA,qB,qC,qD,qE,qF,reduceCtorEq,↓reduceIte,qG,zH,zI,zJ,zK,zL,zM,zN,qH,qI,zO,zP,zQ,zR,qJ,zS,zT,Nat.reduceAdd,Nat.reduceLT,Int.reduceLT,Int.reduceLE,Int.reduceNeg,Int.reduceSub,Int.reduceMul,Int.reduceAdd,Int.reduceToNat,qO,qP,zU,zV,zW,zX,zY,zZ,aR1,aR2,aW1,aW2,aW3,aW4,aW5,aW6,aW7,aW8,aW9,aWa,aWb,qK,qL,qM,qN,ggA,ssA,ggB,ssB,ggC,ssC,ggD,ssD,ggE,ssE,ggF,ssF,ggG,ssG,ggH,ssH,ggI,ssI,ggJ,ssJ,ggK,ssK,rawF_len]
  refine c_law_take bs tb st.rows (many := 3) (by first | exact mm hm | exact m1 hm | decide | (first | lia | omega)) (by first | exact mm hm | exact m1 hm | decide | (first | lia | omega)) fun h1 x fr1 r1 hx => ?_
  have st1 := st.take fr1 r1
  have e1 := st1.ca.1
  have e1o : ∀ o, (h1 ++ [o])[kc]? = some (.dict (dOf c kk)) := fun o => by rw [List.getElem?_append_left (lt_of e1)]; exact e1
  simp only [wpSs,↓xB,↓xD,↓xG,↓vA,↓vB,↓vC,↓vD,↓vF,↓vH,↓vL,↓vM,↓vO,↓vP,↓vQ,↓vS,↓wG,↓wL,wpEs,wpOr,wpAnd,↓tA,↓tB,↓tD,↓tF,↓yA,↓yB,wpIt,wpBin,cmpV,eqO,eqV,inV,seqOf,wpIdx,wpSlc,wpBytes,wpLen,wpIndex,wpSetItem,wpSetAttr,wpAttr,initOf,methN,posOf,sizesL,kindsL,frees,putF,getN,zA,zB,zC,zD,zE,zF,zG,qA,qB,qC,qD,qE,qF,reduceCtorEq,↓reduceIte,qG,zH,zI,zJ,zK,zL,zM,zN,qH,qI,zO,zP,zQ,zR,qJ,zS,zT,Nat.reduceAdd,Nat.reduceLT,Int.reduceLT,Int.reduceLE,Int.reduceNeg,Int.reduceSub,Int.reduceMul,Int.reduceAdd,Int.reduceToNat,qO,qP,zU,zV,zW,zX,zY,zZ,aR1,aR2,aW1,aW2,aW3,aW4,aW5,aW6,aW7,aW8,aW9,aWa,aWb,qK,qL,qM,qN,ggA,ssA,ggB,ssB,ggC,ssC,ggD,ssD,ggE,ssE,ggF,ssF,ggG,ssG,ggH,ssH,ggI,ssI,ggJ,ssJ,ggK,ssK,rawF_len, e1, e1o, dg_ver, dg_known, dg_dcid, dg_first, dg_scid, dg_token, dg_now, dg_born, dg_life, dg_led, dg_done]
  have hv := ci.ver
  have hl1 := lt_of r1.choose_spec.choose_spec.1
  have hl2 := lt_of r1.choose_spec.choose_spec.2.1
  refine (iteA (fun hh => ⟨by (first | lia | omega), ?_⟩) (fun hh => ⟨by (first | lia | omega), ?_⟩))
  · refine lv_a bs tb (vs := [3 + x, 1, c.ver]) (st1.fr (((Fr.app _ _).trans (Fr.app _ _)).trans (Fr.app _ _))) ci hf (by first | exact mm hm | exact m1 hm | decide | (first | lia | omega)) (get_last _ _) (fun _ => by simp) (by simp; (first | lia | omega)) (by simp) (by simp) (by simp; (first | lia | omega)) (by simp; (first | lia | omega)) fun h' c' fr => q h' c' ?_
    exact ((((fr1.trans (Fr.app _ _)).trans (Fr.app _ _)).trans (Fr.app _ _)).mono (by simp)).trans fr
  · refine lv_a bs tb (vs := [3 + x, 1]) (st1.fr (((Fr.app _ _).trans (Fr.app _ _)).trans (Fr.app _ _))) ci hf (by first | exact mm hm | exact m1 hm | decide | (first | lia | omega)) (get_last _ _) (fun h2 => ?_) (by simp; (first | lia | omega)) (by simp) (by simp) (by simp; (first | lia | omega)) (by simp; (first | lia | omega)) fun h' c' fr => q h' c' ?_
    · rw [h2] at hh; cases hh
    · exact ((((fr1.trans (Fr.app _ _)).trans (Fr.app _ _)).trans (Fr.app _ _)).mono (by simp)).trans fr
end
end Mine
end
section
set_option maxRecDepth 100000
set_option maxHeartbeats 2000000
set_option backward.match.sparseCases false
set_option linter.all false
namespace Mine
open PySem PySem.W
noncomputable abbrev byServer : List UInt8 := [98, 121, 32, 115, 101, 114, 118, 101, 114]
noncomputable def tlr_b : Ss := (.cons (.asg (.one (.loc 5)) (.bin .Add (.bytes [98, 121, 32, 115, 101, 114, 118, 101, 114]) (.mkBytes (.lst (.cons (.call 457 (.cons (.loc 0) (.cons (.int 9) .nil))) .nil))))) (.cons (.asg (.one (.loc 6)) (.call 380 (.cons (.call 457 (.cons (.loc 0) (.cons (.int 16) .nil))) (.cons (.int 1) (.cons (.idx (.loc 1) (.str .scid)) (.cons (.loc 5) (.cons (.loc 3) (.cons (.loc 4) .nil)))))))) tl_law_retry_4))
noncomputable def tlr_a : Ss := (.cons (.asg (.one (.loc 4)) (.ite (.cmp .Eq (.loc 2) (.int 4)) (.call 464 (.cons (.idx (.loc 1) (.str .dcid)) .nil)) (.idx (.loc 1) (.str .dcid)))) tlr_b)
theorem b_lr : b_law_retry = (.cons (.asg (.one (.loc 3)) (.ite (.cmp .Eq (.loc 2) (.int 5)) (.bytes []) (.call 394 (.cons (.bytes [115, 101, 99, 114, 101, 116]) (.cons (.bytes [112, 108, 97, 99, 101]) (.cons (.idx (.loc 1) (.str .dcid)) (.cons (.idx (.loc 1) (.str .now)) .nil))))))) tlr_a) := rfl
theorem split_at {D : List UInt8} {j : Nat} (h : j < D.length) : ∃ A a R, D = A ++ a :: R ∧ A.length = j := ⟨D.take j, D[j], D.drop (j + 1), by rw [List.getElem_cons_drop, List.take_append_drop], by rw [List.length_take]; (first | lia | omega)⟩
theorem flip_oct {a : UInt8} {y : Nat} (hy : y < 255) : ∃ b, b ≠ a ∧ octetsOf [.int ((a.toNat ^^^ (1 + y) : Nat) : Int)] = some [b] := by
  have ha := a.toNat_lt
  have hlt : a.toNat ^^^ (1 + y) < 2 ^ 8 := Nat.xor_lt_two_pow (by first | exact mm hm | exact m1 hm | decide | (first | lia | omega)) (by first | exact mm hm | exact m1 hm | decide | (first | lia | omega))
  refine ⟨(a.toNat ^^^ (1 + y)).toUInt8, fun h => ?_, octetsOf_one (by first | exact mm hm | exact m1 hm | decide | (first | lia | omega))⟩
  have h2 := congrArg UInt8.toNat h
  rw [toU8, Nat.mod_eq_of_lt (by first | exact mm hm | exact m1 hm | decide | (first | lia | omega))] at h2
  have h3 : a.toNat ^^^ (a.toNat ^^^ (1 + y)) = a.toNat ^^^ a.toNat := by rw [h2]
  rw [← Nat.xor_assoc, Nat.xor_self, Nat.zero_xor] at h3
  (first | lia | omega)
theorem retryData_eq (low : Nat) (fresh T F : List UInt8) : retryData low own fresh T F = (240 + low % 16).toUInt8 :: (beN 4 1 ++ (ids own fresh ++ (T ++ tagOf rKey F.length F ((240 + low % 16).toUInt8 :: (beN 4 1 ++ (ids own fresh ++ T)))))) := by simp [retryData, retryHead]
theorem flip_bad {low x : Nat} {fresh T F : List UInt8} (hx : x < T.length + 16) (hT : T.length ≤ 100) : ∃ A a R, retryData low own fresh T F = A ++ a :: R ∧ A.length + 1 + x = (retryData low own fresh T F).length ∧
    ∀ b, b ≠ a → ∃ T' tag', A ++ [b] ++ R = (240 + low % 16).toUInt8 :: (beN 4 1 ++ (ids own fresh ++ (T' ++ tag'))) ∧ tag'.length = 16 ∧ T'.length ≤ 500 ∧ tag' ≠ tagOf rKey F.length F ((240 + low % 16).toUInt8 :: (beN 4 1 ++ (ids own fresh ++ T'))) := by
  have hg := tagOf_length rKey F.length F ((240 + low % 16).toUInt8 :: (beN 4 1 ++ (ids own fresh ++ T)))
  generalize hf : (240 + low % 16).toUInt8 = f at hg ⊢
  rw [retryData_eq, hf]
  rcases Nat.lt_or_ge x 16 with h | h
  · refine hide fun gp gg => ?_; obtain ⟨g1, a, g2, e, l⟩ := split_at (D := tagOf rKey F.length F (f :: (beN 4 1 ++ (ids own fresh ++ T)))) (j := 15 - x) (by first | exact mm hm | exact m1 hm | decide | (first | lia | omega)); refine gg ?_; clear gg gp
    refine ⟨f :: (beN 4 1 ++ (ids own fresh ++ (T ++ g1))), a, g2, by rw [e]; simp, by rw [List.length_cons, List.length_append, List.length_append, List.length_append, List.length_cons, List.length_append, List.length_append, List.length_append]; (first | lia | omega), fun b hb => ⟨T, g1 ++ b :: g2, by simp, ?_, by (first | lia | omega), fun hh => hb ?_⟩⟩
    · rw [e] at hg; simpa using hg
    · rw [e] at hh
      have := List.append_cancel_left hh
      injection this
  · refine hide fun gp gg => ?_; obtain ⟨T1, a, T2, e, l⟩ := split_at (D := T) (j := T.length + 15 - x) (by first | exact mm hm | exact m1 hm | decide | (first | lia | omega)); refine gg ?_; clear gg gp
    refine ⟨f :: (beN 4 1 ++ (ids own fresh ++ T1)), a, T2 ++ tagOf rKey F.length F (f :: (beN 4 1 ++ (ids own fresh ++ T))), ?_, ?_, fun b hb => ⟨T1 ++ b :: T2, tagOf rKey F.length F (f :: (beN 4 1 ++ (ids own fresh ++ T))), by simp, hg, by rw [e] at hT; simpa using (by simp at hT; (first | lia | omega)), fun hh => ?_⟩⟩
    · generalize tagOf rKey F.length F (f :: (beN 4 1 ++ (ids own fresh ++ T))) = g
      rw [e]; simp
    · rw [List.length_cons, List.length_append, List.length_append, List.length_cons, List.length_append, List.length_append, List.length_append]; (first | lia | omega)
    · refine hb (tag_one (p := beN 4 F.length ++ F ++ (f :: (beN 4 1 ++ (ids own fresh ++ T1)))) (r := T2) (a := a) (b := b) ?_ ?_ hh).symm
      · rw [e]; simp
      · simp
section
variable {w : World} {B : Heap}
theorem lr_3 (bs : Base w B) (tb : Tabs B) {c : CS} {kr kl kc kk form m : Nat} {o4 o6 o7 o8 : Option V} {b : Bool} {T fresh : List UInt8} {h : H} {Q : K1} (st : St h kr kl kc kk c) (ci : CInv c) (hm : 10 ≤ m)
    (hb : b = (decide (form = 0) && !c.led)) (hT : form = 0 → T = tokenOf secret place c.dcid c.now) (hfr : fresh.length = 10)
    (q : ∀ h' c', Fr [kr, kl, kc] h h' → St h' kr kl kc kk c' → CInv c' → c'.now = c.now → Q (.bool true) h') :
    wpSs (G w B m) tl_law_retry_7 [some (.obj kr), some (.obj kc), some (.int form), some (.bytes T), o4, some (.bytes fresh), o6, o7, o8, some (.bool b)] h fun fl _ h' => match fl with | .ret v => Q v h' | .next => Q .none h' | .brk => False := by
  have e := st.ca.1
  have hk := lt_of e
  simp (maxDischargeDepth := 30) only [tl_law_retry_7, tl_law_retry_8, tl_law_retry_9, wpSs,↓xB,↓xD,↓xG,↓xH,↓vA,↓vB,↓vC,↓vD,↓vE,↓vF,↓vH,↓vJ,↓vK,↓vM,↓vO,↓vP,↓vQ,↓vS,↓vU,↓vV,↓wG,↓wH,↓wI,wpEs,wpOr,wpAnd,↓tA,↓tB,↓tD,↓tF,↓yA,↓yB,wpIt,wpBin,cmpV,eqO,eqV,inV,seqOf,wpIdx,wpSlc,wpBytes,wpLen,wpIndex,wpSetItem,wpSetAttr,wpAttr,initOf,methN,posOf,sizesL,kindsL,frees,putF,getN,zA,zB,zC,zD,zE,zF,zG,qA,qB,qC,qD,qE,qF,reduceCtorEq,↓reduceIte,qG,zH,zI,zJ,zK,zL,zM,zN,qH,qI,zO,zP,zQ,zR,qJ,zS,zT,Nat.reduceAdd,Nat.reduceLT,Int.reduceLT,Int.reduceLE,Int.reduceNeg,Int.reduceSub,Int.reduceMul,Int.reduceAdd,Int.reduceToNat,qO,qP,zU,zV,zW,zX,zY,zZ,aR1,aR2,aW1,aW2,aW3,aW4,aW5,aW6,aW7,aW8,aW9,aWa,aWb,qK,qL,qM,qN,ggA,ssA,ggB,ssB,ggC,ssC,ggD,ssD,ggE,ssE,ggF,ssF,ggG,ssG,ggH,ssH,ggI,ssI,ggJ,ssJ,ggK,ssK,rawF_len, e, dg_ver, dg_known, dg_dcid, dg_first, dg_scid, dg_token, dg_now, dg_born, dg_life, dg_led, dg_done, ga, gsn, gss, gla, gls, hk, not_false_eq_true, ds_dcid, ds_token, ds_born, ds_led, dOf_len]
  have hq1 : b = true → Q (V.bool true) ((((List.set (h ++ [O.tup [V.bytes fresh, V.bytes T, V.int ↑c.now, V.bool true]]) kc (O.dict (dOf { c with dcid := fresh } kk))).set kc (O.dict (dOf { c with dcid := fresh, token := T } kk))).set kc (O.dict (dOf { c with dcid := fresh, token := T, born := c.now } kk))).set kc (O.dict (dOf { c with dcid := fresh, token := T, born := c.now, led := true } kk))) := fun hh => by
    rw [hb, Bool.and_eq_true, Bool.not_eq_true'] at hh
    have h0 : form = 0 := of_decide_eq_true hh.1
    refine q _ { c with dcid := fresh, token := T, born := c.now, led := true } ?_ (((((st.fr (Fr.app _ _)).set { c with dcid := fresh } rfl).set { c with dcid := fresh, token := T } rfl).set { c with dcid := fresh, token := T, born := c.now } rfl).set _ rfl) ⟨ci.ver, ci.known, ci.first, ?_, ?_, ?_, ?_⟩ rfl
    · exact (((((Fr.app _ _).setIn (by simp) _).setIn (by simp) _).setIn (by simp) _).setIn (by simp) _)
    · show fresh.length ≤ 10 ∧ fresh ≠ []
      exact ⟨by (first | lia | omega), by rintro rfl; simp at hfr⟩
    · intro hl; cases hl
    · show T = [] ∨ T = tokenOf secret place c.first c.now
      rw [← ci.dcid hh.2]
      exact .inr (hT h0)
    · have := ci.time
      exact ⟨Nat.le_refl _, this.2⟩
  have hq2 : b = false → Q (V.bool true) h := fun _ => q h c (Fr.refl h) st ci rfl
  refine (iteF (fun h1 => (iteA (fun h2 => ?_) (fun _ => (iteA (hq1) (hq2))))) (fun h1 => (iteA (fun h2 => ?_) (fun _ => (iteA (hq1) (hq2))))))
  · have h0 : form ≠ 0 := by have := of_decide_eq_false h1; (first | lia | omega)
    rw [decide_eq_false h0, Bool.false_and] at hb
    rw [hb] at h2; cases h2
  · have h0 : form = 0 := by have := of_decide_eq_true h1; (first | lia | omega)
    rw [decide_eq_true h0, Bool.true_and] at hb
    rw [hb, decide_eq_true rfl] at h2; cases h2
theorem lr_2 (bs : Base w B) (tb : Tabs B) {c : CS} {kr kl kc kk form m : Nat} {o4 o7 : Option V} {f : UInt8} {T T' tag' fresh : List UInt8} {h : H} {Q : K1} (st : St h kr kl kc kk c) (ci : CInv c) (hm : 10 ≤ m)
    (hf : 240 ≤ f.toNat) (ht' : tag'.length = 16) (hT' : T'.length ≤ 500)
    (hb : (!(c.led || (decide (own ≠ own) || (decide (fresh = c.dcid) || decide (T'.length = 0)))) && decide (tag' = tagOf rKey c.dcid.length c.dcid (f :: (beN 4 1 ++ (ids own fresh ++ T'))))) = (decide (form = 0) && !c.led)) (hT : form = 0 → T = tokenOf secret place c.dcid c.now) (hfr : fresh.length = 10)
    (q : ∀ h' c', Fr [kr, kl, kc] h h' → St h' kr kl kc kk c' → CInv c' → c'.now = c.now → Q (.bool true) h') :
    wpSs (G w B m) tl_law_retry_5 [some (.obj kr), some (.obj kc), some (.int form), some (.bytes T), o4, some (.bytes fresh), some (.bytes (f :: (beN 4 1 ++ (ids own fresh ++ (T' ++ tag'))))), o7, none, none] h fun fl _ h' => match fl with | .ret v => Q v h' | .next => Q .none h' | .brk => False := by
  simp only [tl_law_retry_5, tl_law_retry_6, wpSs,↓xB,↓xD,↓xG,↓xH,↓vA,↓vB,↓vC,↓vD,↓vE,↓vF,↓vH,↓vJ,↓vK,↓vM,↓vO,↓vP,↓vQ,↓vS,↓vU,↓vV,↓wG,↓wH,↓wI,wpEs,wpOr,wpAnd,↓tA,↓tB,↓tD,↓tF,↓yA,↓yB,wpIt,wpBin,cmpV,eqO,eqV,inV,seqOf,wpIdx,wpSlc,wpBytes,wpLen,wpIndex,wpSetItem,wpSetAttr,wpAttr,initOf,methN,posOf,sizesL,kindsL,frees,putF,getN,zA,zB,zC,zD,zE,zF,zG,qA,qB,qC,qD,qE,qF,reduceCtorEq,↓reduceIte,qG,zH,zI,zJ,zK,zL,zM,zN,qH,qI,zO,zP,zQ,zR,qJ,zS,zT,Nat.reduceAdd,Nat.reduceLT,Int.reduceLT,Int.reduceLE,Int.reduceNeg,Int.reduceSub,Int.reduceMul,Int.reduceAdd,Int.reduceToNat,qO,qP,zU,zV,zW,zX,zY,zZ,aR1,aR2,aW1,aW2,aW3,aW4,aW5,aW6,aW7,aW8,aW9,aWa,aWb,qK,qL,qM,qN,ggA,ssA,ggB,ssB,ggC,ssC,ggD,ssD,ggE,ssE,ggF,ssF,ggG,ssG,ggH,ssH,ggI,ssI,ggJ,ssJ,ggK,ssK,rawF_len]
  refine c_read_long_retry bs tb (f := f) (ld := 3) (ls := 10) (d := own) (s := fresh) (tok := T') (tag := tag') hf rfl (by rw [hfr]; rfl) (by decide) (by first | exact mm hm | exact m1 hm | decide | (first | lia | omega)) ht' (by first | exact mm hm | exact m1 hm | decide | (first | lia | omega)) (by simp [ids, hfr]) fun h1 k vs fr1 e1 => ?_
  refine c_bare_retry bs tb ⟨vs, _, e1⟩ (by first | exact mm hm | exact m1 hm | decide | (first | lia | omega)) fun h2 kp fr2 ep => ?_
  have st2 := st.fr (fr1.trans fr2)
  have e := st2.ca.1
  simp only [wpSs,↓xB,↓xD,↓xG,↓xH,↓vA,↓vB,↓vC,↓vD,↓vE,↓vF,↓vH,↓vJ,↓vK,↓vM,↓vO,↓vP,↓vQ,↓vS,↓vU,↓vV,↓wG,↓wH,↓wI,wpEs,wpOr,wpAnd,↓tA,↓tB,↓tD,↓tF,↓yA,↓yB,wpIt,wpBin,cmpV,eqO,eqV,inV,seqOf,wpIdx,wpSlc,wpBytes,wpLen,wpIndex,wpSetItem,wpSetAttr,wpAttr,initOf,methN,posOf,sizesL,kindsL,frees,putF,getN,zA,zB,zC,zD,zE,zF,zG,qA,qB,qC,qD,qE,qF,reduceCtorEq,↓reduceIte,qG,zH,zI,zJ,zK,zL,zM,zN,qH,qI,zO,zP,zQ,zR,qJ,zS,zT,Nat.reduceAdd,Nat.reduceLT,Int.reduceLT,Int.reduceLE,Int.reduceNeg,Int.reduceSub,Int.reduceMul,Int.reduceAdd,Int.reduceToNat,qO,qP,zU,zV,zW,zX,zY,zZ,aR1,aR2,aW1,aW2,aW3,aW4,aW5,aW6,aW7,aW8,aW9,aWa,aWb,qK,qL,qM,qN,ggA,ssA,ggB,ssB,ggC,ssC,ggD,ssD,ggE,ssE,ggF,ssF,ggG,ssG,ggH,ssH,ggI,ssI,ggJ,ssJ,ggK,ssK,rawF_len, e, dg_ver, dg_known, dg_dcid, dg_first, dg_scid, dg_token, dg_now, dg_born, dg_life, dg_led, dg_done]
  have hi : (ids own fresh).length = 15 := by rw [ids_length, hfr]; rfl
  refine c_takes bs tb ep (by simp [beN_length, hi]; (first | lia | omega)) (by simp [beN_length, hi]; (first | lia | omega)) (by have := ci.dl.1; (first | lia | omega)) (by first | exact mm hm | exact m1 hm | decide | (first | lia | omega)) fun h3 fr3 => ?_
  have ex : (f :: (beN 4 1 ++ (ids own fresh ++ (T' ++ tag')))).take ((f :: (beN 4 1 ++ (ids own fresh ++ (T' ++ tag')))).length - 16) = f :: (beN 4 1 ++ (ids own fresh ++ T')) := by
    have e1 : f :: (beN 4 1 ++ (ids own fresh ++ (T' ++ tag'))) = (f :: (beN 4 1 ++ (ids own fresh ++ T'))) ++ tag' := by simp
    rw [e1]
    exact List.take_left' (by rw [List.length_append, ht']; (first | lia | omega))
  rw [ex, hb]
  exact lr_3 bs tb (st2.fr fr3) ci hm rfl hT hfr fun h' c' fr => q h' c' ((((fr1.trans fr2).trans fr3).mono (by simp)).trans fr)
theorem lr_1 (bs : Base w B) (tb : Tabs B) {c : CS} {kr kl kc kk form low m : Nat} {T F fresh : List UInt8} {h : H} {Q : K1} (st : St h kr kl kc kk c) (ci : CInv c) (hm : 10 ≤ m) (hf : form = 0 ∨ form = 3 ∨ form = 4 ∨ form = 5)
    (hF : form = 4 → ∃ p u v, c.dcid = p ++ [u] ∧ F = p ++ [v] ∧ u ≠ v) (hF' : form ≠ 4 → F = c.dcid) (hT : form = 5 → T = []) (hT' : form ≠ 5 → T = tokenOf secret place c.dcid c.now) (hfr : fresh.length = 10) (hTl : T.length ≤ 100)
    (q : ∀ h' c', Fr [kr, kl, kc] h h' → St h' kr kl kc kk c' → CInv c' → c'.now = c.now → Q (.bool true) h') :
    wpSs (G w B m) tl_law_retry_4 [some (.obj kr), some (.obj kc), some (.int form), some (.bytes T), some (.bytes F), some (.bytes fresh), some (.bytes (retryData low own fresh T F)), none, none, none] h fun fl _ h' => match fl with | .ret v => Q v h' | .next => Q .none h' | .brk => False := by
  simp only [tl_law_retry_4, wpSs,↓xB,↓xD,↓xG,↓xH,↓vA,↓vB,↓vC,↓vD,↓vE,↓vF,↓vH,↓vJ,↓vK,↓vM,↓vO,↓vP,↓vQ,↓vS,↓vU,↓vV,↓wG,↓wH,↓wI,wpEs,wpOr,wpAnd,↓tA,↓tB,↓tD,↓tF,↓yA,↓yB,wpIt,wpBin,cmpV,eqO,eqV,inV,seqOf,wpIdx,wpSlc,wpBytes,wpLen,wpIndex,wpSetItem,wpSetAttr,wpAttr,initOf,methN,posOf,sizesL,kindsL,frees,putF,getN,zA,zB,zC,zD,zE,zF,zG,qA,qB,qC,qD,qE,qF,reduceCtorEq,↓reduceIte,qG,zH,zI,zJ,zK,zL,zM,zN,qH,qI,zO,zP,zQ,zR,qJ,zS,zT,Nat.reduceAdd,Nat.reduceLT,Int.reduceLT,Int.reduceLE,Int.reduceNeg,Int.reduceSub,Int.reduceMul,Int.reduceAdd,Int.reduceToNat,qO,qP,zU,zV,zW,zX,zY,zZ,aR1,aR2,aW1,aW2,aW3,aW4,aW5,aW6,aW7,aW8,aW9,aWa,aWb,qK,qL,qM,qN,ggA,ssA,ggB,ssB,ggC,ssC,ggD,ssD,ggE,ssE,ggF,ssF,ggG,ssG,ggH,ssH,ggI,ssI,ggJ,ssJ,ggK,ssK,rawF_len]
  have hf2 : 240 ≤ ((240 + low % 16).toUInt8).toNat := by rw [toU8]; (first | lia | omega)
  have hdl := ci.dl.1
  refine (iteA (fun hh => ?_) (fun hh => ?_))
  · have h3 : form = 3 := by have := of_decide_eq_true hh; (first | lia | omega)
    have e16 : (T.length : Int) + 16 = ((T.length + 16 : Nat) : Int) := by (first | lia | omega)
    rw [e16]
    refine c_law_take bs tb st.rows (by first | exact mm hm | exact m1 hm | decide | (first | lia | omega)) (by first | exact mm hm | exact m1 hm | decide | (first | lia | omega)) fun h1 x fr1 r1 hx => ?_
    refine hide fun gp gg => ?_; obtain ⟨A, a, R, eD, hA, hbad⟩ := flip_bad (low := low) (fresh := fresh) (F := F) hx hTl; refine gg ?_; clear gg gp
    have st1 := st.take fr1 r1
    have hL : (retryData low own fresh T F).length ≤ 200 := by
      rw [retryData_eq, List.length_cons, List.length_append, List.length_append, List.length_append, beN_length, tagOf_length, ids_length, hfr]
      have : own.length = 3 := rfl
      (first | lia | omega)
    rw [eD] at hA hL ⊢
    have es : (((A ++ a :: R).length : Int) - 1 - (x : Int)) = (A.length : Int) := by (first | lia | omega)
    have es1 : ((A.length : Int) + 1) = ((A.length + 1 : Nat) : Int) := by (first | lia | omega)
    have ec1 : cut (A ++ a :: R) none (some (A.length : Int)) = A := by rw [cut_to (by simp)]; simp
    have ec2 : cut (A ++ a :: R) (some ((A.length + 1 : Nat) : Int)) none = R := by
      rw [cut_from (by simp), show A ++ a :: R = (A ++ [a]) ++ R by simp]
      exact List.drop_left' (by simp)
    have eg : (A ++ a :: R).getD A.length 0 = a := by simp
    have e0 : ¬ ((A.length : Int) < 0) := by (first | lia | omega)
    simp only [es, es1, ec1, ec2, if_neg e0, Int.toNat_natCast, eg]
    have hAR : (A ++ a :: R).length = A.length + R.length + 1 := by rw [List.length_append, List.length_cons]; (first | lia | omega)
    refine ⟨⟨by (first | lia | omega), by (first | lia | omega)⟩, c_law_take bs tb r1 (many := 255) (by first | exact mm hm | exact m1 hm | decide | (first | lia | omega)) (by first | exact mm hm | exact m1 hm | decide | (first | lia | omega)) fun h2 y fr2 r2 hy => ?_⟩
    have ey : (1 + (y : Int)).toNat = 1 + y := by (first | lia | omega)
    refine hide fun gp gg => ?_; obtain ⟨b, hb, eo⟩ := flip_oct (a := a) hy; refine gg ?_; clear gg gp
    refine hide fun gp gg => ?_; obtain ⟨T', tag', e1, e2, e3, e4⟩ := hbad b hb; refine gg ?_; clear gg gp
    simp only [ey, eo]
    refine ⟨⟨by (first | lia | omega), by (first | lia | omega)⟩, by simp, by simp; (first | lia | omega), by simp; (first | lia | omega), ?_⟩
    rw [e1]
    refine lr_2 bs tb ((st1.take fr2 r2).fr (Fr.app _ _)) ci hm hf2 e2 e3 ?_ (fun h0 => hT' (by first | exact mm hm | exact m1 hm | decide | (first | lia | omega))) hfr fun h' c' fr => q h' c' (((((fr1.trans fr2).trans (Fr.app _ _))).mono (by simp)).trans fr)
    rw [hF' (by first | exact mm hm | exact m1 hm | decide | (first | lia | omega))] at e4
    rw [decide_eq_false e4, Bool.and_false, decide_eq_false (by first | exact mm hm | exact m1 hm | decide | (first | lia | omega)), Bool.false_and]
  · have h3 : form ≠ 3 := by have := of_decide_eq_false hh; (first | lia | omega)
    rw [retryData_eq]
    refine lr_2 bs tb st ci hm hf2 (tagOf_length _ _ _ _) (by first | exact mm hm | exact m1 hm | decide | (first | lia | omega)) ?_ (fun h0 => hT' (by first | exact mm hm | exact m1 hm | decide | (first | lia | omega))) hfr q
    rcases hf with h0 | h0 | h0 | h0
    · rw [hF' (by first | exact mm hm | exact m1 hm | decide | (first | lia | omega)), decide_eq_true rfl, decide_eq_true h0, Bool.and_true, Bool.true_and]
      cases hl : c.led with
      | true => rfl
      | false =>
        have hd := ci.dcid hl
        have h1 : fresh ≠ c.dcid := fun hh => by have := ci.first; rw [hh, hd] at hfr; (first | lia | omega)
        have h2 : T.length ≠ 0 := by rw [hT' (by first | exact mm hm | exact m1 hm | decide | (first | lia | omega))]; simp [tokenOf, tagOf_length]
        rw [decide_eq_false h1, decide_eq_false h2]
        simp
    · exact absurd h0 h3
    · refine hide fun gp gg => ?_; obtain ⟨p, u, v, e1, e2, e3⟩ := hF h0; refine gg ?_; clear gg gp
      rw [decide_eq_false (show ¬ form = 0 by (first | lia | omega)), Bool.false_and]
      have : ¬ (tagOf rKey F.length F ((240 + low % 16).toUInt8 :: (beN 4 1 ++ (ids own fresh ++ T))) = tagOf rKey c.dcid.length c.dcid ((240 + low % 16).toUInt8 :: (beN 4 1 ++ (ids own fresh ++ T)))) := fun hh => by
        rw [show c.dcid.length = F.length by rw [e1, e2]; simp] at hh
        refine e3 (tag_one (key := rKey) (n := F.length) (head := F) (head' := c.dcid) (p := beN 4 F.length ++ p) (r := ((240 + low % 16).toUInt8 :: (beN 4 1 ++ (ids own fresh ++ T)))) (a := v) (b := u) ?_ ?_ hh).symm
        · rw [e2]; simp
        · rw [e1, e2]; simp
      rw [decide_eq_false this, Bool.and_false]
    · rw [decide_eq_false (show ¬ form = 0 by (first | lia | omega)), Bool.false_and, hT h0]
      simp
theorem lr_b (bs : Base w B) (tb : Tabs B) {c : CS} {kr kl kc kk form m : Nat} {T F : List UInt8} {h : H} {Q : K1} (st : St h kr kl kc kk c) (ci : CInv c) (hm : 10 ≤ m) (hf : form = 0 ∨ form = 3 ∨ form = 4 ∨ form = 5)
    (hF : form = 4 → ∃ p u v, c.dcid = p ++ [u] ∧ F = p ++ [v] ∧ u ≠ v) (hF' : form ≠ 4 → F = c.dcid) (hT : form = 5 → T = []) (hT' : form ≠ 5 → T = tokenOf secret place c.dcid c.now) (hTl : T.length ≤ 100) (hFl : F.length ≤ 100)
    (q : ∀ h' c', Fr [kr, kl, kc] h h' → St h' kr kl kc kk c' → CInv c' → c'.now = c.now → Q (.bool true) h') :
    wpSs (G w B m) tlr_b [some (.obj kr), some (.obj kc), some (.int form), some (.bytes T), some (.bytes F), none, none, none, none, none] h fun fl _ h' => match fl with | .ret v => Q v h' | .next => Q .none h' | .brk => False := by
  simp only [tlr_b, wpSs,↓xB,↓xD,↓xG,↓xH,↓vA,↓vB,↓vC,↓vD,↓vE,↓vF,↓vH,↓vJ,↓vK,↓vM,↓vO,↓vP,↓vQ,↓vS,↓vU,↓vV,↓wG,↓wH,↓wI,wpEs,wpOr,wpAnd,↓tA,↓tB,↓tD,↓tF,↓yA,↓yB,wpIt,wpBin,cmpV,eqO,eqV,inV,seqOf,wpIdx,wpSlc,wpBytes,wpLen,wpIndex,wpSetItem,wpSetAttr,wpAttr,initOf,methN,posOf,sizesL,kindsL,frees,putF,getN,zA,zB,zC,zD,zE,zF,zG,qA,qB,qC,qD,qE,qF,reduceCtorEq,↓reduceIte,qG,zH,zI,zJ,zK,zL,zM,zN,qH,qI,zO,zP,zQ,zR,qJ,zS,zT,Nat.reduceAdd,Nat.reduceLT,Int.reduceLT,Int.reduceLE,Int.reduceNeg,Int.reduceSub,Int.reduceMul,Int.reduceAdd,Int.reduceToNat,qO,qP,zU,zV,zW,zX,zY,zZ,aR1,aR2,aW1,aW2,aW3,aW4,aW5,aW6,aW7,aW8,aW9,aWa,aWb,qK,qL,qM,qN,ggA,ssA,ggB,ssB,ggC,ssC,ggD,ssD,ggE,ssE,ggF,ssF,ggG,ssG,ggH,ssH,ggI,ssI,ggJ,ssJ,ggK,ssK,rawF_len]
  refine c_law_take bs tb st.rows (many := 9) (by first | exact mm hm | exact m1 hm | decide | (first | lia | omega)) (by first | exact mm hm | exact m1 hm | decide | (first | lia | omega)) fun h1 x fr1 r1 hx => ?_
  have st1 := (st.take fr1 r1).fr (Fr.app _ [O.list [.int x]])
  simp only [octetsOf_one (show x < 256 by (first | lia | omega))]
  refine ⟨by simp, by simp, c_law_take bs tb st1.rows (many := 16) (by first | exact mm hm | exact m1 hm | decide | (first | lia | omega)) (by first | exact mm hm | exact m1 hm | decide | (first | lia | omega)) fun h2 low fr2 r2 hlow => ?_⟩
  have st2 := st1.take fr2 r2
  have e := st2.ca.1
  simp only [wpSs,↓xB,↓xD,↓xG,↓xH,↓vA,↓vB,↓vC,↓vD,↓vE,↓vF,↓vH,↓vJ,↓vK,↓vM,↓vO,↓vP,↓vQ,↓vS,↓vU,↓vV,↓wG,↓wH,↓wI,wpEs,wpOr,wpAnd,↓tA,↓tB,↓tD,↓tF,↓yA,↓yB,wpIt,wpBin,cmpV,eqO,eqV,inV,seqOf,wpIdx,wpSlc,wpBytes,wpLen,wpIndex,wpSetItem,wpSetAttr,wpAttr,initOf,methN,posOf,sizesL,kindsL,frees,putF,getN,zA,zB,zC,zD,zE,zF,zG,qA,qB,qC,qD,qE,qF,reduceCtorEq,↓reduceIte,qG,zH,zI,zJ,zK,zL,zM,zN,qH,qI,zO,zP,zQ,zR,qJ,zS,zT,Nat.reduceAdd,Nat.reduceLT,Int.reduceLT,Int.reduceLE,Int.reduceNeg,Int.reduceSub,Int.reduceMul,Int.reduceAdd,Int.reduceToNat,qO,qP,zU,zV,zW,zX,zY,zZ,aR1,aR2,aW1,aW2,aW3,aW4,aW5,aW6,aW7,aW8,aW9,aWa,aWb,qK,qL,qM,qN,ggA,ssA,ggB,ssB,ggC,ssC,ggD,ssD,ggE,ssE,ggF,ssF,ggG,ssG,ggH,ssH,ggI,ssI,ggJ,ssJ,ggK,ssK,rawF_len, e, dg_ver, dg_known, dg_dcid, dg_first, dg_scid, dg_token, dg_now, dg_born, dg_life, dg_led, dg_done]
  refine c_put_retry_packet bs tb (d := own) (s := [98, 121, 32, 115, 101, 114, 118, 101, 114, x.toUInt8]) (tok := T) (od := F) (by decide) (by simp) (by first | exact mm hm | exact m1 hm | decide | (first | lia | omega)) (by first | exact mm hm | exact m1 hm | decide | (first | lia | omega)) (by first | exact mm hm | exact m1 hm | decide | (first | lia | omega)) fun h3 fr3 => ?_
  exact lr_1 bs tb (st2.fr fr3) ci hm hf hF hF' hT hT' rfl hTl fun h' c' fr => q h' c' (((((fr1.trans (Fr.app _ _)).trans fr2).mono (by simp)).trans (fr3.mono (by simp))).trans fr)
theorem lr_a (bs : Base w B) (tb : Tabs B) {c : CS} {kr kl kc kk form m : Nat} {T : List UInt8} {h : H} {Q : K1} (st : St h kr kl kc kk c) (ci : CInv c) (hm : 10 ≤ m) (hf : form = 0 ∨ form = 3 ∨ form = 4 ∨ form = 5)
    (hT : form = 5 → T = []) (hT' : form ≠ 5 → T = tokenOf secret place c.dcid c.now) (hTl : T.length ≤ 100)
    (q : ∀ h' c', Fr [kr, kl, kc] h h' → St h' kr kl kc kk c' → CInv c' → c'.now = c.now → Q (.bool true) h') :
    wpSs (G w B m) tlr_a [some (.obj kr), some (.obj kc), some (.int form), some (.bytes T), none, none, none, none, none, none] h fun fl _ h' => match fl with | .ret v => Q v h' | .next => Q .none h' | .brk => False := by
  have e := st.ca.1
  have hdl := ci.dl.1
  simp only [tlr_a, wpSs,↓xB,↓xD,↓xG,↓xH,↓vA,↓vB,↓vC,↓vD,↓vE,↓vF,↓vH,↓vJ,↓vK,↓vM,↓vO,↓vP,↓vQ,↓vS,↓vU,↓vV,↓wG,↓wH,↓wI,wpEs,wpOr,wpAnd,↓tA,↓tB,↓tD,↓tF,↓yA,↓yB,wpIt,wpBin,cmpV,eqO,eqV,inV,seqOf,wpIdx,wpSlc,wpBytes,wpLen,wpIndex,wpSetItem,wpSetAttr,wpAttr,initOf,methN,posOf,sizesL,kindsL,frees,putF,getN,zA,zB,zC,zD,zE,zF,zG,qA,qB,qC,qD,qE,qF,reduceCtorEq,↓reduceIte,qG,zH,zI,zJ,zK,zL,zM,zN,qH,qI,zO,zP,zQ,zR,qJ,zS,zT,Nat.reduceAdd,Nat.reduceLT,Int.reduceLT,Int.reduceLE,Int.reduceNeg,Int.reduceSub,Int.reduceMul,Int.reduceAdd,Int.reduceToNat,qO,qP,zU,zV,zW,zX,zY,zZ,aR1,aR2,aW1,aW2,aW3,aW4,aW5,aW6,aW7,aW8,aW9,aWa,aWb,qK,qL,qM,qN,ggA,ssA,ggB,ssB,ggC,ssC,ggD,ssD,ggE,ssE,ggF,ssF,ggG,ssG,ggH,ssH,ggI,ssI,ggJ,ssJ,ggK,ssK,rawF_len, e, dg_ver, dg_known, dg_dcid, dg_first, dg_scid, dg_token, dg_now, dg_born, dg_life, dg_led, dg_done]
  refine (iteA (fun hh => ?_) (fun hh => ?_))
  · have h1 : form = 4 := by have := of_decide_eq_true hh; (first | lia | omega)
    refine hide fun gp gg => ?_; obtain ⟨p, u, hpu⟩ := some_last ci.dl.2; refine gg ?_; clear gg gp
    rw [hpu]
    have hpl : p.length + 1 ≤ 10 := by rw [hpu] at hdl; simpa using hdl
    refine c_other bs tb (by first | exact mm hm | exact m1 hm | decide | (first | lia | omega)) (by first | exact mm hm | exact m1 hm | decide | (first | lia | omega)) fun h7 fr7 => ?_
    exact lr_b bs tb (st.fr fr7) ci hm hf (fun _ => ⟨p, u, _, hpu, rfl, fun hh => other_ne p u (by rw [← hh])⟩) (fun h => absurd h1 h) hT hT' hTl (by simp; (first | lia | omega)) fun h' c' fr => q h' c' ((fr7.mono (by simp)).trans fr)
  · have h1 : form ≠ 4 := by have := of_decide_eq_false hh; (first | lia | omega)
    exact lr_b bs tb st ci hm hf (fun h => absurd h h1) (fun _ => rfl) hT hT' hTl (by first | exact mm hm | exact m1 hm | decide | (first | lia | omega)) q
theorem c_law_retry (bs : Base w B) (tb : Tabs B) {c : CS} {kr kl kc kk form m : Nat} {h : H} {Q : K1} (st : St h kr kl kc kk c) (ci : CInv c) (hf : form = 0 ∨ form = 3 ∨ form = 4 ∨ form = 5) (hm : 11 ≤ m)
    (q : ∀ h' c', Fr [kr, kl, kc] h h' → St h' kr kl kc kk c' → CInv c' → c'.now = c.now → Q (.bool true) h') : G w B m 483 [.obj kr, .obj kc, .int form] h Q := by
  refine fn_go bs tb (f_law_retry _) (by first | exact mm hm | exact m1 hm | decide | (first | lia | omega)) [some (.obj kr), some (.obj kc), some (.int form), none, none, none, none, none, none, none] rfl rfl ?_
  have e := st.ca.1
  simp only [b_lr, wpSs,↓xB,↓xD,↓xG,↓vB,↓vC,↓vD,↓vE,↓vF,↓vH,↓vJ,↓vK,↓vM,↓vO,↓vP,↓vQ,↓vS,↓vU,↓vV,↓wG,↓wH,↓wI,wpEs,wpOr,wpAnd,↓tA,↓tB,↓tD,↓tF,↓yA,↓yB,wpIt,wpBin,cmpV,eqO,eqV,inV,seqOf,wpIdx,wpSlc,wpBytes,wpLen,wpIndex,wpSetItem,wpSetAttr,wpAttr,initOf,methN,posOf,sizesL,kindsL,frees,putF,getN,zA,zB,zC,zD,zE,zF,zG,qA,qB,qC,qD,qE,qF,reduceCtorEq,↓reduceIte,qG,zH,zI,zJ,zK,zL,zM,zN,qH,qI,zO,zP,zQ,zR,qJ,zS,zT,Nat.reduceAdd,Nat.reduceLT,Int.reduceLT,Int.reduceLE,Int.reduceNeg,Int.reduceSub,Int.reduceMul,Int.reduceAdd,Int.reduceToNat,qO,qP,zU,zV,zW,zX,zY,zZ,aR1,aR2,aW1,aW2,aW3,aW4,aW5,aW6,aW7,aW8,aW9,aWa,aWb,qK,qL,qM,qN,ggA,ssA,ggB,ssB,ggC,ssC,ggD,ssD,ggE,ssE,ggF,ssF,ggG,ssG,ggH,ssH,ggI,ssI,ggJ,ssJ,ggK,ssK,rawF_len, e, dg_ver, dg_known, dg_dcid, dg_first, dg_scid, dg_token, dg_now, dg_born, dg_life, dg_led, dg_done]
  have hdl := ci.dl.1
  have ht := ci.time
  refine (iteA (fun hh => ?_) (fun hh => ?_))
  · have h1 : form = 5 := by have := of_decide_eq_true hh; (first | lia | omega)
    exact lr_a bs tb st ci (by first | exact mm hm | exact m1 hm | decide | (first | lia | omega)) hf (fun _ => rfl) (fun h => absurd h1 h) (by simp) q
  · have h1 : form ≠ 5 := by have := of_decide_eq_false hh; (first | lia | omega)
    refine c_token_for bs tb (secret := secret) (address := place) (od := c.dcid) (time := c.now) (by first | exact mm hm | exact m1 hm | decide | (first | lia | omega)) (by decide) (by first | exact mm hm | exact m1 hm | decide | (first | lia | omega)) (by first | exact mm hm | exact m1 hm | decide | (first | lia | omega)) fun h1' fr1 => ?_
    have hb := tokBody_length c.dcid c.now
    exact lr_a bs tb (st.fr fr1) ci (by first | exact mm hm | exact m1 hm | decide | (first | lia | omega)) hf (fun h => absurd h h1) (fun _ => rfl) (by simp [tokenOf, tagOf_length]; (first | lia | omega)) fun h' c' fr => q h' c' ((fr1.mono (by simp)).trans fr)
end
end Mine
end
section
set_option maxRecDepth 100000
set_option maxHeartbeats 2000000
set_option backward.match.sparseCases false
set_option linter.all false
namespace Mine
open PySem PySem.W
noncomputable def tlw_d : Ss := (.cons (.asg (.one (.loc 5)) (.dct [.version, .known, .dcid, .first, .scid, .token] (.cons (.loc 3) (.cons (.loc 4) (.cons (.loc 2) (.cons (.loc 2) (.cons (.bytes [111, 119, 110]) (.cons (.bytes []) .nil)))))))) (.cons (.expr (.update (.loc 5) (.dct [.now, .born, .life, .is_led, .is_done] (.cons (.int 100) (.cons (.int 0) (.cons (.bin .Add (.int 1) (.call 457 (.cons (.loc 1) (.cons (.int 3) .nil)))) (.cons (.bool false) (.cons (.bool false) .nil)))))))) tl_law_5))
noncomputable def tlw_c : Ss := (.cons (.asg (.rev [(.loc 3), (.loc 4)]) (.tup (.cons (.idx (.lst (.cons (.int 1) (.cons (.int 2) .nil))) (.call 457 (.cons (.loc 1) (.cons (.int 2) .nil)))) (.cons (.idx (.lst (.cons (.lst (.cons (.int 1) .nil)) (.cons (.lst (.cons (.int 4) (.cons (.int 1) .nil))) (.cons (.lst (.cons (.int 3) (.cons (.int 4) .nil))) (.cons (.lst .nil) .nil))))) (.call 457 (.cons (.loc 1) (.cons (.int 4) .nil)))) .nil)))) tlw_d)
noncomputable def tlw_b : Ss := (.cons (.asg (.one (.loc 2)) (.bin .Add (.bytes [105, 100]) (.mkBytes (.lst (.cons (.call 457 (.cons (.loc 1) (.cons (.int 256) .nil))) .nil))))) tlw_c)
theorem b_lw : b_law = (.cons (.asg (.one (.loc 1)) (.lst (.cons (.comp [] (.absI (.toInt (.loc 0))) (.slcT (.loc 0) (.int 60))) (.cons (.int 0) .nil)))) tlw_b) := rfl
section
variable {w : World} {B : Heap}
theorem lb_tail (bs : Base w B) (tb : Tabs B) {c : CS} {kr kl kc kk m : Nat} {o0 o2 o3 o4 o6 o7 : Option V} {h : H} {Q : K2} (st : St h kr kl kc kk c) (ci : CInv c) (hm : 20 ≤ m) (hn : c.now < 1000)
    (q : ∀ h' c' fl, (fl = .next ∨ fl = .brk) → St h' kr kl kc kk c' → CInv c' → c'.now ≤ c.now + 1 → Q fl [o0, some (.obj kr), o2, o3, o4, some (.obj kc), o6, o7, some (.bool true)] h') :
    wpSs (G w B m) tl_lb_law_0_2 [o0, some (.obj kr), o2, o3, o4, some (.obj kc), o6, o7, some (.bool true)] h Q := by
  have e := st.ca.1
  simp only [tl_lb_law_0_2, tl_lb_law_0_3, tl_lb_law_0_4, wpSs,↓xB,↓xD,↓xG,↓xH,↓vB,↓vC,↓vD,↓vF,↓vH,↓vJ,↓vK,↓vL,↓vM,↓vO,↓vP,↓vS,↓wG,wpEs,wpOr,wpAnd,↓tA,↓tB,↓tD,↓tF,↓yA,↓yB,wpIt,wpBin,cmpV,eqO,eqV,inV,seqOf,wpIdx,wpSlc,wpBytes,wpLen,wpIndex,wpSetItem,wpSetAttr,wpAttr,initOf,methN,posOf,sizesL,kindsL,frees,putF,getN,zA,zB,zC,zD,zE,zF,zG,qA,qB,qC,qD,qE,qF,reduceCtorEq,↓reduceIte,qG,zH,zI,zJ,zK,zL,zM,zN,qH,qI,zO,zP,zQ,zR,qJ,zS,zT,Nat.reduceAdd,Nat.reduceLT,Int.reduceLT,Int.reduceLE,Int.reduceNeg,Int.reduceSub,Int.reduceMul,Int.reduceAdd,Int.reduceToNat,qO,qP,zU,zV,zW,zX,zY,zZ,aR1,aR2,aW1,aW2,aW3,aW4,aW5,aW6,aW7,aW8,aW9,aWa,aWb,qK,qL,qM,qN,ggA,ssA,ggB,ssB,ggC,ssC,ggD,ssD,ggE,ssE,ggF,ssF,ggG,ssG,ggH,ssH,ggI,ssI,ggJ,ssJ,ggK,ssK,rawF_len, e, dg_ver, dg_known, dg_dcid, dg_first, dg_scid, dg_token, dg_now, dg_born, dg_life, dg_led, dg_done]
  refine c_law_take bs tb st.rows (many := 2) (by first | exact mm hm | exact m1 hm | decide | (first | lia | omega)) (by first | exact mm hm | exact m1 hm | decide | (first | lia | omega)) fun h1 x fr1 r1 hx => ?_
  have st1 := st.take fr1 r1
  have e1 := st1.ca.1
  have hk := lt_of e1
  have en : ((c.now : Int) + (x : Int)) = ((c.now + x : Nat) : Int) := by (first | lia | omega)
  simp (maxDischargeDepth := 30) only [wpSs,↓xB,↓xD,↓xG,↓xH,↓vB,↓vC,↓vD,↓vF,↓vH,↓vJ,↓vK,↓vL,↓vM,↓vO,↓vP,↓vS,↓wG,wpEs,wpOr,wpAnd,↓tA,↓tB,↓tD,↓tF,↓yA,↓yB,wpIt,wpBin,cmpV,eqO,eqV,inV,seqOf,wpIdx,wpSlc,wpBytes,wpLen,wpIndex,wpSetItem,wpSetAttr,wpAttr,initOf,methN,posOf,sizesL,kindsL,frees,putF,getN,zA,zB,zC,zD,zE,zF,zG,qA,qB,qC,qD,qE,qF,reduceCtorEq,↓reduceIte,qG,zH,zI,zJ,zK,zL,zM,zN,qH,qI,zO,zP,zQ,zR,qJ,zS,zT,Nat.reduceAdd,Nat.reduceLT,Int.reduceLT,Int.reduceLE,Int.reduceNeg,Int.reduceSub,Int.reduceMul,Int.reduceAdd,Int.reduceToNat,qO,qP,zU,zV,zW,zX,zY,zZ,aR1,aR2,aW1,aW2,aW3,aW4,aW5,aW6,aW7,aW8,aW9,aWa,aWb,qK,qL,qM,qN,ggA,ssA,ggB,ssB,ggC,ssC,ggD,ssD,ggE,ssE,ggF,ssF,ggG,ssG,ggH,ssH,ggI,ssI,ggJ,ssJ,ggK,ssK,rawF_len, e1, dg_ver, dg_known, dg_dcid, dg_first, dg_scid, dg_token, dg_now, dg_born, dg_life, dg_led, dg_done, gss, hk, en, ds_now, dOf_len]
  have st2 := st1.set { c with now := c.now + x } rfl
  have ci2 : CInv { c with now := c.now + x } := ⟨ci.ver, ci.known, ci.first, ci.dl, ci.dcid, ci.token, by have := ci.time; exact ⟨by show c.born ≤ c.now + x; (first | lia | omega), by show c.now + x ≤ 1000; (first | lia | omega), this.2.2⟩⟩
  refine c_server_right bs tb st2.ca ci2 (by first | exact mm hm | exact m1 hm | decide | (first | lia | omega)) fun h3 fr3 => ?_
  have st3 := st2.fr fr3
  have e3 := st3.ca.1
  simp only [e3, dg_ver, dg_known, dg_dcid, dg_first, dg_scid, dg_token, dg_now, dg_born, dg_life, dg_led, dg_done]
  refine (iteA (fun _ => ?_) (fun _ => ?_))
  · exact q h3 _ _ (.inr rfl) st3 ci2 (by show c.now + x ≤ c.now + 1; (first | lia | omega))
  · exact q h3 _ _ (.inl rfl) st3 ci2 (by show c.now + x ≤ c.now + 1; (first | lia | omega))
theorem lb_step (bs : Base w B) (tb : Tabs B) {c : CS} {kr kl kc kk m : Nat} {o0 o2 o3 o4 o6 o7 o8 : Option V} {h : H} {Q : K2} (st : St h kr kl kc kk c) (ci : CInv c) (hm : 20 ≤ m) (hn : c.now < 1000)
    (q : ∀ h' c' fl o6 o7 o8, (fl = .next ∨ fl = .brk) → St h' kr kl kc kk c' → CInv c' → c'.now ≤ c.now + 1 → Q fl [o0, some (.obj kr), o2, o3, o4, some (.obj kc), o6, o7, o8] h') :
    wpSs (G w B m) lb_law_0 [o0, some (.obj kr), o2, o3, o4, some (.obj kc), o6, o7, o8] h Q := by
  simp only [lb_law_0, tl_lb_law_0_1, wpSs,↓xA,↓xB,↓xD,↓xF,↓xG,↓xH,↓vB,↓vC,↓vD,↓vE,↓vF,↓vH,↓vJ,↓vK,↓vL,↓vM,↓vO,↓vP,↓vQ,↓vR,↓vS,↓vV,↓vX,↓vY,↓wD,↓wG,↓wI,↓wK,wpEs,wpOr,wpAnd,↓tA,↓tB,↓tC,↓tD,↓tF,↓yA,↓yB,wpIt,wpBin,cmpV,eqO,eqV,inV,seqOf,wpIdx,wpSlc,wpBytes,wpLen,wpIndex,wpSetItem,wpSetAttr,wpAttr,initOf,methN,posOf,sizesL,kindsL,frees,putF,getN,zA,zB,zC,zD,zE,zF,zG,qA,qB,qC,qD,qE,qF,reduceCtorEq,↓reduceIte,qG,zH,zI,zJ,zK,zL,zM,zN,qH,qI,zO,zP,zQ,zR,qJ,zS,zT,Nat.reduceAdd,Nat.reduceLT,Int.reduceLT,Int.reduceLE,Int.reduceNeg,Int.reduceSub,Int.reduceMul,Int.reduceAdd,Int.reduceToNat,qO,qP,zU,zV,zW,zX,zY,zZ,aR1,aR2,aW1,aW2,aW3,aW4,aW5,aW6,aW7,aW8,aW9,aWa,aWb,qK,qL,qM,qN,ggA,ssA,ggB,ssB,ggC,ssC,ggD,ssD,ggE,ssE,ggF,ssF,ggG,ssG,ggH,ssH,ggI,ssI,ggJ,ssJ,ggK,ssK,rawF_len]
  refine c_law_take bs tb st.rows (many := 7) (by first | exact mm hm | exact m1 hm | decide | (first | lia | omega)) (by first | exact mm hm | exact m1 hm | decide | (first | lia | omega)) fun h1 x fr1 r1 hx => ?_
  have st1 := st.take fr1 r1
  have e1 := st1.ca.1
  have e2 : ∀ o, (h1 ++ [o])[kc]? = some (.dict (dOf c kk)) := fun o => by rw [ga (lt_of e1)]; exact e1
  have hk := lt_of e1
  simp (maxDischargeDepth := 30) only [wpSs,↓xA,↓xB,↓xD,↓xF,↓xG,↓xH,↓vB,↓vC,↓vD,↓vE,↓vF,↓vH,↓vJ,↓vK,↓vL,↓vM,↓vO,↓vP,↓vQ,↓vR,↓vS,↓vV,↓vX,↓vY,↓wD,↓wG,↓wI,↓wK,wpEs,wpOr,wpAnd,↓tA,↓tB,↓tC,↓tD,↓tF,↓yA,↓yB,wpIt,wpBin,cmpV,eqO,eqV,inV,seqOf,wpIdx,wpSlc,wpBytes,wpLen,wpIndex,wpSetItem,wpSetAttr,wpAttr,initOf,methN,posOf,sizesL,kindsL,frees,putF,getN,zA,zB,zC,zD,zE,zF,zG,qA,qB,qC,qD,qE,qF,reduceCtorEq,↓reduceIte,qG,zH,zI,zJ,zK,zL,zM,zN,qH,qI,zO,zP,zQ,zR,qJ,zS,zT,Nat.reduceAdd,Nat.reduceLT,Int.reduceLT,Int.reduceLE,Int.reduceNeg,Int.reduceSub,Int.reduceMul,Int.reduceAdd,Int.reduceToNat,qO,qP,zU,zV,zW,zX,zY,zZ,aR1,aR2,aW1,aW2,aW3,aW4,aW5,aW6,aW7,aW8,aW9,aWa,aWb,qK,qL,qM,qN,ggA,ssA,ggB,ssB,ggC,ssC,ggD,ssD,ggE,ssE,ggF,ssF,ggG,ssG,ggH,ssH,ggI,ssI,ggJ,ssJ,ggK,ssK,rawF_len, e1, dg_ver, dg_known, dg_dcid, dg_first, dg_scid, dg_token, dg_now, dg_born, dg_life, dg_led, dg_done, gss, hk, e2, ds_led, dOf_len, allInt, gla, gls, ga]
  have hc := contains_map [1, 2] (x : Int)
  simp only [List.map_cons, List.map_nil] at hc
  have fT := Fr.app (S := []) h1 [O.tup [V.int 1, V.int 2]]
  have stT := st1.fr fT
  have hv : ∀ (form : Nat), form = x → form < 3 → G w B m 476 [V.obj kr, V.obj kc, V.int ↑x] (h1 ++ [O.tup [V.int 1, V.int 2]]) fun v h1 =>
        wpSs (G w B m) tl_lb_law_0_2 [o0, some (V.obj kr), o2, o3, o4, some (V.obj kc), o6, some (V.int ↑x), some v] h1 Q := fun form hx1 hx2 => by
    refine c_law_versions bs tb stT ci (by first | exact mm hm | exact m1 hm | decide | (first | lia | omega)) (by first | exact mm hm | exact m1 hm | decide | (first | lia | omega)) fun h2 c2 fr2 st2 ci2 hn2 => ?_
    exact lb_tail bs tb st2 ci2 hm (by first | exact mm hm | exact m1 hm | decide | (first | lia | omega)) fun h' c' fl hfl st' ci' hn' => q h' c' fl _ _ _ hfl st' ci' (by first | exact mm hm | exact m1 hm | decide | (first | lia | omega))
  have hr : (x = 0 ∨ x = 3 ∨ x = 4 ∨ x = 5) → G w B m 483 [V.obj kr, V.obj kc, V.int ↑x] (h1 ++ [O.tup [V.int 1, V.int 2]]) fun v h1 =>
        wpSs (G w B m) tl_lb_law_0_2 [o0, some (V.obj kr), o2, o3, o4, some (V.obj kc), o6, some (V.int ↑x), some v] h1 Q := fun hf => by
    refine c_law_retry bs tb stT ci hf (by first | exact mm hm | exact m1 hm | decide | (first | lia | omega)) fun h2 c2 fr2 st2 ci2 hn2 => ?_
    exact lb_tail bs tb st2 ci2 hm (by first | exact mm hm | exact m1 hm | decide | (first | lia | omega)) fun h' c' fl hfl st' ci' hn' => q h' c' fl _ _ _ hfl st' ci' (by first | exact mm hm | exact m1 hm | decide | (first | lia | omega))
  have hs : wpSs (G w B m) tl_lb_law_0_2 [o0, some (V.obj kr), o2, o3, o4, some (V.obj kc), o6, some (V.int ↑x), some (V.bool true)]
      (List.set (h1 ++ [O.tup [V.int 1, V.int 2]] ++ [O.tup [V.bool true, V.bool true]]) kc (O.dict (dOf { c with led := true } kk))) Q := by
    refine lb_tail bs tb ((stT.fr (Fr.app _ _)).set { c with led := true } rfl) ⟨ci.ver, ci.known, ci.first, ci.dl, (fun hh => by cases hh), ci.token, ci.time⟩ hm hn fun h' c' fl hfl st' ci' hn' => q h' c' fl _ _ _ hfl st' ci' hn'
  rw [hc]
  refine (iteA (fun h1 => hv x rfl ?_) (fun h1 => (iteF (fun h2 => (iteA (fun _ => hs) (fun h3 => hr ?_))) (fun h2 => (iteA (fun _ => hv x rfl ?_) (fun _ => (iteA (fun _ => hs) (fun _ => hr ?_))))))))
  · have := of_decide_eq_true h1; simp at this; (first | lia | omega)
  · have a1 := of_decide_eq_false h1
    have a2 := of_decide_eq_false h2
    have a3 := of_decide_eq_false h3
    simp at a1; (first | lia | omega)
  · have := of_decide_eq_true h2; (first | lia | omega)
  · have := of_decide_eq_true h2; (first | lia | omega)
theorem law_loop (bs : Base w B) (tb : Tabs B) {kr kl kc kk m : Nat} {o0 o2 o3 o4 : Option V} {Q : K2} (hm : 20 ≤ m)
    (q : ∀ h' c' o6 o7 o8, St h' kr kl kc kk c' → CInv c' → Q .next [o0, some (.obj kr), o2, o3, o4, some (.obj kc), o6, o7, o8] h') : ∀ (xs : List V) (h : H) (c : CS) (o6 o7 o8 : Option V), St h kr kl kc kk c → CInv c → c.now + xs.length ≤ 1000 →
    wpFor (fun l2 h2 Q2 => wpSs (G w B m) lb_law_0 l2 h2 Q2) 6 (fun _ => True) xs [o0, some (.obj kr), o2, o3, o4, some (.obj kc), o6, o7, o8] h Q
  | [], h, c, o6, o7, o8, st, ci, hl => q h c o6 o7 o8 st ci
  | v :: xs, h, c, o6, o7, o8, st, ci, hl => by
    have hl2 : c.now + (xs.length + 1) ≤ 1000 := hl
    refine ⟨by simp, ?_⟩
    refine lb_step bs tb (o6 := some v) (o7 := o7) (o8 := o8) st ci hm (by first | exact mm hm | exact m1 hm | decide | (first | lia | omega)) fun h' c' fl p6 p7 p8 hfl st' ci' hn => ?_
    rcases hfl with rfl | rfl
    · exact ⟨trivial, law_loop bs tb hm q xs h' c' p6 p7 p8 st' ci' (by first | exact mm hm | exact m1 hm | decide | (first | lia | omega))⟩
    · exact q h' c' p6 p7 p8 st' ci'
theorem law_tail (bs : Base w B) (tb : Tabs B) {c : CS} {kr kl kc kk m : Nat} {o0 o2 o3 o4 : Option V} {h : H} (st : St h kr kl kc kk c) (ci : CInv c) (hm : 20 ≤ m) (hn : c.now ≤ 100) :
    wpSs (G w B m) tl_law_5 [o0, some (.obj kr), o2, o3, o4, some (.obj kc), none, none, none] h fun fl _ h' => match fl with | .ret v => v = .bool true | .next => False | .brk => False := by
  simp only [tl_law_5, tl_law_6, wpSs,↓xA,↓xB,↓xD,↓xF,↓xG,↓xH,↓vB,↓vC,↓vD,↓vE,↓vF,↓vH,↓vM,↓vO,↓vP,↓vQ,↓vR,↓vS,↓vV,↓vX,↓vY,↓wD,↓wG,↓wI,↓wK,wpEs,wpOr,wpAnd,↓tA,↓tB,↓tC,↓tD,↓yA,↓yB,wpIt,wpBin,cmpV,eqO,eqV,inV,seqOf,wpIdx,wpSlc,wpBytes,wpLen,wpIndex,wpSetItem,wpSetAttr,wpAttr,initOf,methN,posOf,sizesL,kindsL,frees,putF,getN,zA,zB,zC,zD,zE,zF,zG,qA,qB,qC,qD,qE,qF,reduceCtorEq,↓reduceIte,qG,zH,zI,zJ,zK,zL,zM,zN,qH,qI,zO,zP,zQ,zR,qJ,zS,zT,Nat.reduceAdd,Nat.reduceLT,Int.reduceLT,Int.reduceLE,Int.reduceNeg,Int.reduceSub,Int.reduceMul,Int.reduceAdd,Int.reduceToNat,qO,qP,zU,zV,zW,zX,zY,zZ,aR1,aR2,aW1,aW2,aW3,aW4,aW5,aW6,aW7,aW8,aW9,aWa,aWb,qK,qL,qM,qN,ggA,ssA,ggB,ssB,ggC,ssC,ggD,ssD,ggE,ssE,ggF,ssF,ggG,ssG,ggH,ssH,ggI,ssI,ggJ,ssJ,ggK,ssK,rawF_len]
  refine c_law_take bs tb st.rows (many := 6) (by first | exact mm hm | exact m1 hm | decide | (first | lia | omega)) (by first | exact mm hm | exact m1 hm | decide | (first | lia | omega)) fun h1 x fr1 r1 hx => ?_
  have st1 := st.take fr1 r1
  simp only [wpSs,↓xA,↓xB,↓xD,↓xF,↓xG,↓xH,↓vB,↓vC,↓vD,↓vE,↓vF,↓vH,↓vM,↓vO,↓vP,↓vQ,↓vR,↓vS,↓vV,↓vX,↓vY,↓wD,↓wG,↓wI,↓wK,wpEs,wpOr,wpAnd,↓tA,↓tB,↓tC,↓tD,↓yA,↓yB,wpIt,wpBin,cmpV,eqO,eqV,inV,seqOf,wpIdx,wpSlc,wpBytes,wpLen,wpIndex,wpSetItem,wpSetAttr,wpAttr,initOf,methN,posOf,sizesL,kindsL,frees,putF,getN,zA,zB,zC,zD,zE,zF,zG,qA,qB,qC,qD,qE,qF,reduceCtorEq,↓reduceIte,qG,zH,zI,zJ,zK,zL,zM,zN,qH,qI,zO,zP,zQ,zR,qJ,zS,zT,Nat.reduceAdd,Nat.reduceLT,Int.reduceLT,Int.reduceLE,Int.reduceNeg,Int.reduceSub,Int.reduceMul,Int.reduceAdd,Int.reduceToNat,qO,qP,zU,zV,zW,zX,zY,zZ,aR1,aR2,aW1,aW2,aW3,aW4,aW5,aW6,aW7,aW8,aW9,aWa,aWb,qK,qL,qM,qN,ggA,ssA,ggB,ssB,ggC,ssC,ggD,ssD,ggE,ssE,ggF,ssF,ggG,ssG,ggH,ssH,ggI,ssI,ggJ,ssJ,ggK,ssK,rawF_len]
  refine ⟨⟨by (first | lia | omega), by (first | lia | omega)⟩, ?_⟩
  refine law_loop bs tb hm (fun h2 c2 o6 o7 o8 st2 ci2 => ?_) _ _ _ _ _ _ st1 ci ?_
  · have e2 := st2.ca.1
    simp only [wpSs,↓xA,↓xB,↓xD,↓xF,↓xG,↓xH,↓vB,↓vC,↓vD,↓vE,↓vF,↓vH,↓vM,↓vO,↓vP,↓vQ,↓vR,↓vS,↓vV,↓vX,↓vY,↓wD,↓wG,↓wI,↓wK,wpEs,wpOr,wpAnd,↓tA,↓tB,↓tC,↓tD,↓yA,↓yB,wpIt,wpBin,cmpV,eqO,eqV,inV,seqOf,wpIdx,wpSlc,wpBytes,wpLen,wpIndex,wpSetItem,wpSetAttr,wpAttr,initOf,methN,posOf,sizesL,kindsL,frees,putF,getN,zA,zB,zC,zD,zE,zF,zG,qA,qB,qC,qD,qE,qF,reduceCtorEq,↓reduceIte,qG,zH,zI,zJ,zK,zL,zM,zN,qH,qI,zO,zP,zQ,zR,qJ,zS,zT,Nat.reduceAdd,Nat.reduceLT,Int.reduceLT,Int.reduceLE,Int.reduceNeg,Int.reduceSub,Int.reduceMul,Int.reduceAdd,Int.reduceToNat,qO,qP,zU,zV,zW,zX,zY,zZ,aR1,aR2,aW1,aW2,aW3,aW4,aW5,aW6,aW7,aW8,aW9,aWa,aWb,qK,qL,qM,qN,ggA,ssA,ggB,ssB,ggC,ssC,ggD,ssD,ggE,ssE,ggF,ssF,ggG,ssG,ggH,ssH,ggI,ssI,ggJ,ssJ,ggK,ssK,rawF_len, e2, dg_ver, dg_known, dg_dcid, dg_first, dg_scid, dg_token, dg_now, dg_born, dg_life, dg_led, dg_done]
    refine (iteA (fun _ => ?_) (fun _ => ?_))
    · exact c_law_retry bs tb (form := 0) st2 ci2 (by first | exact mm hm | exact m1 hm | decide | (first | lia | omega)) (by first | exact mm hm | exact m1 hm | decide | (first | lia | omega)) fun _ _ _ _ _ _ => rfl
    · exact c_law_retry bs tb (form := 5) st2 ci2 (by first | exact mm hm | exact m1 hm | decide | (first | lia | omega)) (by first | exact mm hm | exact m1 hm | decide | (first | lia | omega)) fun _ _ _ _ _ _ => rfl
  · unfold rangeUp
    rw [List.length_map, List.length_range]
    (first | lia | omega)
theorem lw_d (bs : Base w B) (tb : Tabs B) {kr kl kk m ver x : Nat} {known : List Int} {h : H} (r : Rows h kr kl) (ek : h[kk]? = some (.list (known.map .int))) (n1 : kk ≠ kr) (n2 : kk ≠ kl) (hv : 1 ≤ ver ∧ ver ≤ 4) (hk : known.length ≤ 2 ∧ ∀ v ∈ known, 1 ≤ v ∧ v ≤ 4) (hm : 20 ≤ m) :
    wpSs (G w B m) tlw_d [some (.obj 0), some (.obj kr), some (.bytes [105, 100, x.toUInt8]), some (.int ver), some (.obj kk), none, none, none, none] h fun fl _ h' => match fl with | .ret v => v = .bool true | .next => False | .brk => False := by
  simp only [tlw_d, wpSs,↓xA,↓xB,↓xD,↓xF,↓xG,↓xH,↓vB,↓vC,↓vD,↓vE,↓vF,↓vH,↓vM,↓vO,↓vP,↓vQ,↓vR,↓vS,↓vV,↓vX,↓vY,↓wD,↓wG,↓wI,↓wK,wpEs,wpOr,wpAnd,↓tA,↓tB,↓tC,↓tD,↓yA,↓yB,wpIt,wpBin,cmpV,eqO,eqV,inV,seqOf,wpIdx,wpSlc,wpBytes,wpLen,wpIndex,wpSetItem,wpSetAttr,wpAttr,initOf,methN,posOf,sizesL,kindsL,frees,putF,getN,zA,zB,zC,zD,zE,zF,zG,qA,qB,qC,qD,qE,qF,reduceCtorEq,↓reduceIte,qG,zH,zI,zJ,zK,zL,zM,zN,qH,qI,zO,zP,zQ,zR,qJ,zS,zT,Nat.reduceAdd,Nat.reduceLT,Int.reduceLT,Int.reduceLE,Int.reduceNeg,Int.reduceSub,Int.reduceMul,Int.reduceAdd,Int.reduceToNat,qO,qP,zU,zV,zW,zX,zY,zZ,aR1,aR2,aW1,aW2,aW3,aW4,aW5,aW6,aW7,aW8,aW9,aWa,aWb,qK,qL,qM,qN,ggA,ssA,ggB,ssB,ggC,ssC,ggD,ssD,ggE,ssE,ggF,ssF,ggG,ssG,ggH,ssH,ggI,ssI,ggJ,ssJ,ggK,ssK,rawF_len]
  have hkr := lt_of r.choose_spec.choose_spec.1
  have hkl := lt_of r.choose_spec.choose_spec.2.1
  have hkk := lt_of ek
  have f0 := Fr.app (S := []) h [O.dict ([N.version, N.known, N.dcid, N.first, N.scid, N.token].zip [V.int ↑ver, V.obj kk, V.bytes [105, 100, x.toUInt8], V.bytes [105, 100, x.toUInt8], V.bytes [111, 119, 110], V.bytes []])]
  refine ⟨by decide, c_law_take bs tb (r.fr f0 (by simp) (by simp)) (many := 3) (by first | exact mm hm | exact m1 hm | decide | (first | lia | omega)) (by first | exact mm hm | exact m1 hm | decide | (first | lia | omega)) fun h2 y fr2 r2 hy => ?_⟩
  have ed := fr2.2 _ _ (get_last h _) (by simp; (first | lia | omega))
  have hd := lt_of ed
  have ek2 := fr2.2 _ _ (f0.2 _ _ ek (by simp)) (by simp; (first | lia | omega))
  simp only [ga hd, ed]
  have en : (1 + (y : Int)) = ((1 + y : Nat) : Int) := by (first | lia | omega)
  rw [en]
  have hne : List.length h ≠ List.length h2 := by (first | lia | omega)
  refine ⟨by decide, ⟨hne, by show 6 + 5 < 100; (first | lia | omega)⟩, ?_⟩
  refine law_tail bs tb (c := { ver := ver, known := known, dcid := [105, 100, x.toUInt8], first := [105, 100, x.toUInt8], token := [], now := 100, born := 0, life := 1 + y, led := false, done := false }) (kr := kr) (kl := kl) (kc := h.length) (kk := kk) ⟨?_, ⟨?_, ?_⟩, by (first | lia | omega), by (first | lia | omega), n1, n2, by (first | lia | omega)⟩ ⟨hv, hk, rfl, ⟨by show 3 ≤ 10; (first | lia | omega), by simp⟩, fun _ => rfl, .inl rfl, ⟨by show 0 ≤ 100; (first | lia | omega), by show 100 ≤ 1000; (first | lia | omega), by show 1 + y ≤ 3; (first | lia | omega)⟩⟩ hm (Nat.le_refl _)
  · refine hide fun gp gg => ?_; obtain ⟨ns, cc, a, b, e⟩ := r2; refine gg ?_; clear gg gp
    refine ⟨ns, cc, ?_, ?_, e⟩
    · rw [gsn (by first | exact mm hm | exact m1 hm | decide | (first | lia | omega)), ga (lt_of a)]; exact a
    · rw [gsn (by first | exact mm hm | exact m1 hm | decide | (first | lia | omega)), ga (lt_of b)]; exact b
  · rw [gss (gla hd)]; rfl
  · rw [gsn (by first | exact mm hm | exact m1 hm | decide | (first | lia | omega)), ga (lt_of ek2)]; exact ek2
theorem lw_c (bs : Base w B) (tb : Tabs B) {kr kl m x : Nat} {h : H} (r : Rows h kr kl) (hm : 20 ≤ m) :
    wpSs (G w B m) tlw_c [some (.obj 0), some (.obj kr), some (.bytes [105, 100, x.toUInt8]), none, none, none, none, none, none] h fun fl _ h' => match fl with | .ret v => v = .bool true | .next => False | .brk => False := by
  simp only [tlw_c, wpSs,↓xA,↓xB,↓xD,↓xF,↓xG,↓xH,↓vA,↓vB,↓vC,↓vD,↓vE,↓vF,↓vH,↓vM,↓vO,↓vP,↓vQ,↓vR,↓vS,↓vV,↓vX,↓vY,↓wD,↓wG,↓wI,↓wK,wpEs,wpOr,wpAnd,↓tA,↓tB,↓tC,↓tD,↓yA,↓yB,wpIt,wpBin,cmpV,eqO,eqV,inV,seqOf,wpIdx,wpSlc,wpBytes,wpLen,wpIndex,wpSetItem,wpSetAttr,wpAttr,initOf,methN,posOf,sizesL,kindsL,frees,putF,getN,zA,zB,zC,zD,zE,zF,zG,qA,qB,qC,qD,qE,qF,reduceCtorEq,↓reduceIte,qG,zH,zI,zJ,zK,zL,zM,zN,qH,qI,zO,zP,zQ,zR,qJ,zS,zT,Nat.reduceAdd,Nat.reduceLT,Int.reduceLT,Int.reduceLE,Int.reduceNeg,Int.reduceSub,Int.reduceMul,Int.reduceAdd,Int.reduceToNat,qO,qP,zU,zV,zW,zX,zY,zZ,aR1,aR2,aW1,aW2,aW3,aW4,aW5,aW6,aW7,aW8,aW9,aWa,aWb,qK,qL,qM,qN,ggA,ssA,ggB,ssB,ggC,ssC,ggD,ssD,ggE,ssE,ggF,ssF,ggG,ssG,ggH,ssH,ggI,ssI,ggJ,ssJ,ggK,ssK,rawF_len]
  refine c_law_take bs tb (r.fr (S := []) (Fr.app _ _) (by simp) (by simp)) (many := 2) (by first | exact mm hm | exact m1 hm | decide | (first | lia | omega)) (by first | exact mm hm | exact m1 hm | decide | (first | lia | omega)) fun h1 y fr1 r1 hy => ?_
  have hkr := lt_of r.choose_spec.choose_spec.1
  have hkl := lt_of r.choose_spec.choose_spec.2.1
  have e1 := fr1.2 _ _ (get_last h _) (by simp; (first | lia | omega))
  have hkr1 := lt_of r1.choose_spec.choose_spec.1
  have hkl1 := lt_of r1.choose_spec.choose_spec.2.1
  have ey : ([V.int 1, V.int 2] : List V).getD (y : Int).toNat V.none = .int ((1 + y : Nat) : Int) := by rcases (show y = 0 ∨ y = 1 by (first | lia | omega)) with rfl | rfl <;> rfl
  simp only [e1, ey]
  refine ⟨⟨by (first | lia | omega), by simp; (first | lia | omega), by (first | lia | omega)⟩, ?_⟩
  refine c_law_take bs tb (r1.fr (S := []) (((((Fr.app _ _).trans (Fr.app _ _)).trans (Fr.app _ _)).trans (Fr.app _ _)).trans (Fr.app _ _)) (by simp) (by simp)) (many := 4) (by first | exact mm hm | exact m1 hm | decide | (first | lia | omega)) (by first | exact mm hm | exact m1 hm | decide | (first | lia | omega)) fun h2 z fr2 r2 hz => ?_
  have e2 := fr2.2 _ _ (get_last _ _) (by simp; (first | lia | omega))
  simp only [e2]
  refine ⟨⟨by (first | lia | omega), by simp; (first | lia | omega), by (first | lia | omega)⟩, ?_⟩
  have f3 := Fr.app (S := []) h2
  rcases (show z = 0 ∨ z = 1 ∨ z = 2 ∨ z = 3 by (first | lia | omega)) with rfl | rfl | rfl | rfl
  · refine lw_d bs tb (ver := 1 + y) (known := [1]) (kk := h1.length) (r2.fr (f3 _) (by simp) (by simp)) ((f3 _).2 _ _ (fr2.2 _ (.list [.int 1]) ?_ (by simp; (first | lia | omega))) (by simp)) (by first | exact mm hm | exact m1 hm | decide | (first | lia | omega)) (by first | exact mm hm | exact m1 hm | decide | (first | lia | omega)) (by first | exact mm hm | exact m1 hm | decide | (first | lia | omega)) (by simp) hm
    rw [ga (by simp), ga (by simp), ga (by simp), ga (by simp)]
    exact get_last _ _
  · refine lw_d bs tb (ver := 1 + y) (known := [4, 1]) (kk := (h1 ++ [O.list [V.int 1]]).length) (r2.fr (f3 _) (by simp) (by simp)) ((f3 _).2 _ _ (fr2.2 _ (.list [.int 4, .int 1]) ?_ (by simp; (first | lia | omega))) (by simp)) (by simp; (first | lia | omega)) (by simp; (first | lia | omega)) (by first | exact mm hm | exact m1 hm | decide | (first | lia | omega)) (by simp) hm
    rw [ga (by simp), ga (by simp), ga (by simp)]
    exact get_last _ _
  · refine lw_d bs tb (ver := 1 + y) (known := [3, 4]) (kk := (h1 ++ [O.list [V.int 1]] ++ [O.list [V.int 4, V.int 1]]).length) (r2.fr (f3 _) (by simp) (by simp)) ((f3 _).2 _ _ (fr2.2 _ (.list [.int 3, .int 4]) ?_ (by simp; (first | lia | omega))) (by simp)) (by simp; (first | lia | omega)) (by simp; (first | lia | omega)) (by first | exact mm hm | exact m1 hm | decide | (first | lia | omega)) (by simp) hm
    rw [ga (by simp), ga (by simp)]
    exact get_last _ _
  · refine lw_d bs tb (ver := 1 + y) (known := []) (kk := (h1 ++ [O.list [V.int 1]] ++ [O.list [V.int 4, V.int 1]] ++ [O.list [V.int 3, V.int 4]]).length) (r2.fr (f3 _) (by simp) (by simp)) ((f3 _).2 _ _ (fr2.2 _ (.list []) ?_ (by simp; (first | lia | omega))) (by simp)) (by simp; (first | lia | omega)) (by simp; (first | lia | omega)) (by first | exact mm hm | exact m1 hm | decide | (first | lia | omega)) (by simp) hm
    rw [ga (by simp)]
    exact get_last _ _
theorem c_law (bs : Base w B) (tb : Tabs B) (o : Obj) (is : List Int) (hl : is.length ≤ 63) : G w B 40 495 [.obj 0] [.ro o is] fun v _ => v = .bool true := by
  refine fn_go bs tb (f_law _) (by first | exact mm hm | exact m1 hm | decide | (first | lia | omega)) [some (.obj 0), none, none, none, none, none, none, none, none] rfl rfl ?_
  simp only [b_lw, wpSs,↓xA,↓xB,↓xD,↓xF,↓xG,↓vA,↓vB,↓vC,↓vD,↓vE,↓vF,↓vH,↓vM,↓vO,↓vP,↓vQ,↓vR,↓vS,↓vV,↓vX,↓vY,↓wD,↓wG,↓wI,↓wK,wpEs,wpOr,wpAnd,↓tA,↓tB,↓tC,↓tD,↓yA,↓yB,wpIt,wpBin,cmpV,eqO,eqV,inV,seqOf,wpIdx,wpSlc,wpBytes,wpLen,wpIndex,wpSetItem,wpSetAttr,wpAttr,initOf,methN,posOf,sizesL,kindsL,frees,putF,getN,zA,zB,zC,zD,zE,zF,zG,qA,qB,qC,qD,qE,qF,reduceCtorEq,↓reduceIte,qG,zH,zI,zJ,zK,zL,zM,zN,qH,qI,zO,zP,zQ,zR,qJ,zS,zT,Nat.reduceAdd,Nat.reduceLT,Int.reduceLT,Int.reduceLE,Int.reduceNeg,Int.reduceSub,Int.reduceMul,Int.reduceAdd,Int.reduceToNat,qO,qP,zU,zV,zW,zX,zY,zZ,aR1,aR2,aW1,aW2,aW3,aW4,aW5,aW6,aW7,aW8,aW9,aWa,aWb,qK,qL,qM,qN,ggA,ssA,ggB,ssB,ggC,ssC,ggD,ssD,ggE,ssE,ggF,ssF,ggG,ssG,ggH,ssH,ggI,ssI,ggJ,ssJ,ggK,ssK,rawF_len]
  refine ⟨by (first | lia | omega), fun v => match v with | .int i => .int i.natAbs | _ => .none, ⟨by simp; (first | lia | omega), fun v hv => ?_⟩, ?_⟩
  · refine hide fun gp gg => ?_; obtain ⟨i, hi, rfl⟩ := List.mem_map.mp hv; refine gg ?_; clear gg gp
    exact ⟨rfl, rfl, [], rfl⟩
  · simp only [tlw_b, wpSs,↓xA,↓xB,↓xD,↓xF,↓xG,↓vA,↓vB,↓vC,↓vD,↓vE,↓vF,↓vH,↓vM,↓vO,↓vP,↓vQ,↓vR,↓vS,↓vV,↓vX,↓vY,↓wD,↓wG,↓wI,↓wK,wpEs,wpOr,wpAnd,↓tA,↓tB,↓tC,↓tD,↓yA,↓yB,wpIt,wpBin,cmpV,eqO,eqV,inV,seqOf,wpIdx,wpSlc,wpBytes,wpLen,wpIndex,wpSetItem,wpSetAttr,wpAttr,initOf,methN,posOf,sizesL,kindsL,frees,putF,getN,zA,zB,zC,zD,zE,zF,zG,qA,qB,qC,qD,qE,qF,reduceCtorEq,↓reduceIte,qG,zH,zI,zJ,zK,zL,zM,zN,qH,qI,zO,zP,zQ,zR,qJ,zS,zT,Nat.reduceAdd,Nat.reduceLT,Int.reduceLT,Int.reduceLE,Int.reduceNeg,Int.reduceSub,Int.reduceMul,Int.reduceAdd,Int.reduceToNat,qO,qP,zU,zV,zW,zX,zY,zZ,aR1,aR2,aW1,aW2,aW3,aW4,aW5,aW6,aW7,aW8,aW9,aWa,aWb,qK,qL,qM,qN,ggA,ssA,ggB,ssB,ggC,ssC,ggD,ssD,ggE,ssE,ggF,ssF,ggG,ssG,ggH,ssH,ggI,ssI,ggJ,ssJ,ggK,ssK,rawF_len]
    refine c_law_take bs tb (kr := 3) (kl := 2) ⟨(is.take 60).map Int.natAbs, 0, rfl, ?_, by simp; (first | lia | omega)⟩ (many := 256) (by first | exact mm hm | exact m1 hm | decide | (first | lia | omega)) (by first | exact mm hm | exact m1 hm | decide | (first | lia | omega)) fun h1 x fr1 r1 hx => ?_
    · rw [List.map_map, List.map_map]; rfl
    · simp only [octetsOf_one hx]
      refine ⟨by simp, by simp, ?_⟩
      exact lw_c bs tb (r1.fr (S := []) (Fr.app _ _) (by simp) (by simp)) (by first | exact mm hm | exact m1 hm | decide | (first | lia | omega))
end
theorem holds : PySem.Challenge.rw_pb0530_01.Holds := holds_G (n := 40) (by first | exact mm hm | exact m1 hm | decide | (first | lia | omega)) fun w B o is bs tb hl => c_law bs tb o is hl
end Mine
end
theorem PySem.Challenge.cw_pb0530_01_holds : PySem.Challenge.rw_pb0530_01.Holds := by
  exact Mine.holds
